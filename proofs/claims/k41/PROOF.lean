import PyProof.Rows.All
import Wide.All
import OpenK.AllK
import Wide.FinOn
import HandS.ForMost
import HandS.NoneIn
import HandS.Conv
import HandS.IsInst
import HandS.Wide
import HandS.SortInts
import HandS.Walk
import KE.DataMinMax
import HandS.ForExc
import HandS.ExcInit
import KE.KExcIs
import HandS.ExcField
import HandS.ExcIs
import HandS.Text
import HandS.Zip
import HandS.Exc
import HandS.WordsDict
import HandS.Deep
import HandS.Iter
import HandS.Sort
import HandS.Dict
import HandS.ExcOwn
import HandS.More
import HandS.Style
import HandS.List
import HandS.Rev
import HandS.Set
import HandS.Strs
import KE.SortData
import PySem.Challenge.RW_tiehues_k41_trees_refused
set_option Elab.async false
set_option linter.all false
set_option maxRecDepth 100000
set_option maxHeartbeats 4000000
set_option synthInstance.maxHeartbeats 0
set_option synthInstance.maxSize 1000000
namespace Cm
open PySem PySem.Spec PyProof.Rows L2

/-! ### named readings -/
def rLenX (K : PySem.W.Frag) : List V → Hp → VK → Prop := fun xs H Q => ∃ p ys, xs = [.ref p] ∧ (SqL K H p ys ∨ SqT K H p ys) ∧ Q (.int ys.length) H
theorem q_len {X : Cx} : CallR X (.builtin "len") (rLenX X.K) := call_len_seq
def rListOf (K : PySem.W.Frag) : List V → Hp → VK → Prop := fun xs H Q => ∃ p ys, xs = [.ref p] ∧ (SqL K H p ys ∨ SqT K H p ys) ∧ ∀ l, H l = none → Q (.ref l) (upd H l (.lst ys))
theorem q_listOf {X : Cx} : CallR X (.type "list") (rListOf X.K) := call_list_of
def rMax2 : List V → Hp → VK → Prop := fun xs H Q => ∃ i j, xs = [.int i, .int j] ∧ Q (.int (if j > i then j else i)) H
theorem q_max2 {X : Cx} (hc : X.calm = true) : CallR X (.builtin "max") rMax2 := call_max2 hc
def rMin2 : List V → Hp → VK → Prop := fun xs H Q => ∃ i j, xs = [.int i, .int j] ∧ Q (.int (if j < i then j else i)) H
theorem q_min2 {X : Cx} (hc : X.calm = true) : CallR X (.builtin "min") rMin2 := call_min2 hc
theorem q_isi {X : Cx} : CallR X (.builtin "isinstance") (rIsi X.K) := call_isi
def rIntOf : List V → Hp → VK → Prop := fun xs H Q => (∃ i, xs = [.int i] ∧ Q (.int i) H) ∨ ∃ k, xs = [.bl k] ∧ Q (.int (if k then 1 else 0)) H
theorem q_intB {X : Cx} : CallR X (.type "int") rIntOf := call_int1
theorem q_intI {X : Cx} : CallR X (.type "int") rIntOf := call_int1

/-! ### operators by names -/
def xAdd : R2 := rI0 fun i j => .int (i + j)
def xSub : R2 := rI0 fun i j => .int (i - j)
def xMul : R2 := rI CMul fun i j => .int (i * j)
def xMulW : R2 := rI CMulW fun i j => .int (i * j)
def xDiv : R2 := rI CDiv fun i j => .int (i / j)
def xDivW : R2 := rI CDivW fun i j => .int (i / j)
def xMod : R2 := rI (fun _ j => 0 < j) fun i j => .int (i % j)
def xPow : R2 := rI CPow fun i j => .int (i ^ j.toNat)
def xLt : R2 := rI0 fun i j => .bl (decide (i < j))
def xLe : R2 := rI0 fun i j => .bl (decide (i ≤ j))
def xGt : R2 := rI0 fun i j => .bl (decide (j < i))
def xGe : R2 := rI0 fun i j => .bl (decide (j ≤ i))
def xNeg : V → Hp → VK → Prop := rU fun i => .int (-i)
def xIsN : R2 := fun x y H Q => y = .non ∧ Q (.bl (decide (x = .non))) H
def xNotN : R2 := fun x y H Q => y = .non ∧ Q (.bl (!decide (x = .non))) H
def xTru (K : PySem.W.Frag) (ta : TE) : TT := fun σ H Q => ta σ H fun x H' => ∃ k, TruV K x H' k ∧ Q k H'

/-! ### xs[i] += e -/
def rGetL (K : PySem.W.Frag) : V → V → Hp → VK → Prop := fun x y H Q => ∃ p xs i v, x = .ref p ∧ y = .int i ∧ SqL K H p xs ∧ 0 ≤ i ∧ atI xs i = some v ∧ Q v H
theorem get_list {X : Cx} : PGet X (rGetL X.K) := by
  intro pins s σ H x y v u Q I rx ry h
  obtain ⟨p, xs, i, z, rfl, rfl, hq, h0, he, q⟩ := h
  cases rx
  obtain ⟨t, rfl⟩ := ry
  obtain ⟨its, r, pl, hz⟩ := I.list hq
  obtain ⟨j, h1, h2, h3, h4, h5⟩ := atI_get he
  obtain ⟨w, ew, rw'⟩ := r.get h2
  have hl := r.length
  have hn := line63
  have fin : EP X pins σ Q w s := ⟨z, H, I, rw', q⟩
  have hj : i.toNat = j := by
    rw [seqIndex_of h0 h5] at h1
    exact Option.some.inj h1
  exact wpAny_getItem_list pl.isList h0 (by omega) (by rw [hj]; simpa using ew) fin
def xAugL (K : PySem.W.Frag) (to ti te : TE) : TS := tAugS to ti te (rGetL K) (ipI fun i j => i + j) rSetL
theorem q_augL {X : Cx} {o i e : Expr} {to ti te : TE} {tpos pos : Pos} (ho : PE X o to) (hi : PE X i ti) (he : PE X e te)
    (ha : ∀ ov iv new, augStore i ov iv new = (do holding [new, ov, iv] (setItem ov iv new); release [new, ov, iv] []; pure .next) := by intros; rfl) : PS X (.AugAssign (.Subscript o i tpos) .Add e pos) (xAugL X.K to ti te) :=
  ps_augS ho hi get_list he ip_add set_list ha

/-! ### constants of the module -/
def g_tok (mg : Str → Option Value) (x : Str) : Tok := match mg x with
  | some (.int _ t) => t
  | _ => default
theorem tok_mk {mg : Str → Option Value} {x : Str} {n : Int} {t : Tok} (h : mg x = some (.int n t)) : mg x = some (.int n (g_tok mg x)) := by
  unfold g_tok
  rw [h]

/-! ### heaps -/
theorem same_new {H : Hp} {p : Addr} {o : HO} (h : H p = none) : Same H (upd H p o) := fun b x e => by
  rw [upd_ne (ne_of_none e h)]
  exact e
theorem same_mut {H H' : Hp} {p : Addr} {o : HO} (e : Same H H') (h : H p = none) : Same H (upd H' p o) := fun a u ha => by
  rw [upd_ne (ne_of_none ha h)]
  exact e a u ha
theorem same_seqT {K : PySem.W.Frag} {H H' : Hp} {a : Addr} {xs : List V} (e : Same H H') (h : SqT K H a xs) : SqT K H' a xs := by
  rcases h with (h | ⟨o, h⟩) | h
  · exact .inl (.inl (e _ _ h))
  · exact .inl (.inr ⟨o, e _ _ h⟩)
  · exact .inr h
theorem sl {K : PySem.W.Frag} {H : Hp} {a : Addr} {xs : List V} (h : H a = some (.lst xs)) : SqL K H a xs := .inl (.inl h)
theorem stp {K : PySem.W.Frag} {H : Hp} {a : Addr} {xs : List V} (h : H a = some (.tup xs)) : SqT K H a xs := .inl (.inl h)
theorem sz {n : Nat} (h : n ≤ 100000) : n ≤ sizeLine := Nat.le_trans h (by decide)
theorem szl {n : Nat} (h : n < 100000) : n < sizeLine := Nat.lt_of_lt_of_le h (by decide)

/-! ### data -/
mutual
theorem dp_same {K : PySem.W.Frag} {H H' : Hp} (e : Same H H') : ∀ {v : V} {d : PyData}, Dp K H v d → Dp K H' v d
  | _, _, .non => .non
  | _, _, .bl b => .bl b
  | _, _, .int i => .int i
  | _, _, .str x => .str x
  | _, _, .lst s r => .lst (e.seq s) (dpa_same e r)
  | _, _, .tup s r => .tup (same_seqT e s) (dpa_same e r)
theorem dpa_same {K : PySem.W.Frag} {H H' : Hp} (e : Same H H') : ∀ {vs : List V} {ds : List PyData}, DpAll K H vs ds → DpAll K H' vs ds
  | _, _, .nil => .nil
  | _, _, .cons h r => .cons (dp_same e h) (dpa_same e r)
end
section
variable {K : PySem.W.Frag} {H : Hp}
theorem dp_int {v : V} {i : Int} (h : Dp K H v (.int i)) : v = .int i := by cases h; rfl
theorem dp_bool {v : V} {b : Bool} (h : Dp K H v (.bool b)) : v = .bl b := by cases h; rfl
theorem dp_str {v : V} {s : Str} (h : Dp K H v (.str s)) : v = .str s := by cases h; rfl
theorem dp_list {v : V} {ds : List PyData} (h : Dp K H v (.list ds)) : ∃ a xs, v = .ref a ∧ SqL K H a xs ∧ DpAll K H xs ds := by
  cases h with | lst s r => exact ⟨_, _, rfl, s, r⟩
theorem dp_tup {v : V} {ds : List PyData} (h : Dp K H v (.tuple ds)) : ∃ a xs, v = .ref a ∧ SqT K H a xs ∧ DpAll K H xs ds := by
  cases h with | tup s r => exact ⟨_, _, rfl, s, r⟩
theorem dp_tup2 {v : V} {c d : PyData} (h : Dp K H v (.tuple [c, d])) : ∃ a x y, v = .ref a ∧ SqT K H a [x, y] ∧ Dp K H x c ∧ Dp K H y d := by
  cases h with | tup s r =>
    cases r with | cons h1 r =>
      cases r with | cons h2 r =>
        cases r
        exact ⟨_, _, _, rfl, s, h1, h2⟩
theorem dp_pair {v : V} {a b : Int} (h : Dp K H v (.tuple [.int a, .int b])) : ∃ p, v = .ref p ∧ SqT K H p [.int a, .int b] := by
  obtain ⟨p, x, y, rfl, s, h1, h2⟩ := dp_tup2 h
  rw [dp_int h1, dp_int h2] at s
  exact ⟨p, rfl, s⟩
theorem dpa_ints : ∀ {ns : List Int} {vs : List V}, DpAll K H vs (ns.map PyData.int) → vs = ns.map V.int
  | [], _, h => by cases h; rfl
  | n :: r, _, h => by
    cases h with | cons h1 h2 => rw [dp_int h1, dpa_ints h2]; rfl
theorem dpa_of_ints : ∀ ns : List Int, DpAll K H (ns.map V.int) (ns.map PyData.int)
  | [] => .nil
  | n :: r => .cons (.int n) (dpa_of_ints r)
theorem dpa_len : ∀ {vs : List V} {ds : List PyData}, DpAll K H vs ds → vs.length = ds.length
  | _, _, .nil => rfl
  | _, _, .cons _ r => by simp [dpa_len r]
theorem dpa_get : ∀ {vs : List V} {ds : List PyData} {i : Nat} {v : V}, DpAll K H vs ds → vs[i]? = some v → ∃ d, ds[i]? = some d ∧ Dp K H v d
  | _, _, _, _, .nil, e => by simp at e
  | _, _, 0, _, .cons h _, e => by simp at e; subst e; exact ⟨_, rfl, h⟩
  | _, _, i + 1, _, .cons _ r, e => by
    obtain ⟨d, h1, h2⟩ := dpa_get (i := i) r (by simpa using e)
    exact ⟨d, by simpa using h1, h2⟩
theorem dpa_get2 : ∀ {vs : List V} {ds : List PyData} {i : Nat} {d : PyData}, DpAll K H vs ds → ds[i]? = some d → ∃ v, vs[i]? = some v ∧ Dp K H v d
  | _, _, _, _, .nil, e => by simp at e
  | _, _, 0, _, .cons h _, e => by simp at e; subst e; exact ⟨_, rfl, h⟩
  | _, _, i + 1, _, .cons _ r, e => by
    obtain ⟨d, h1, h2⟩ := dpa_get2 (i := i) r (by simpa using e)
    exact ⟨d, by simpa using h1, h2⟩
theorem dpa_app {vs ws : List V} {ds es : List PyData} : DpAll K H vs ds → DpAll K H ws es → DpAll K H (vs ++ ws) (ds ++ es)
  | .nil, r => r
  | .cons h t, r => .cons h (dpa_app t r)
/-- a list of ints -/
abbrev dInts (ns : List Int) : PyData := .list (ns.map PyData.int)
theorem dp_ints {v : V} {ns : List Int} (h : Dp K H v (dInts ns)) : ∃ a, v = .ref a ∧ SqL K H a (ns.map V.int) := by
  obtain ⟨a, xs, rfl, s, r⟩ := dp_list h
  rw [dpa_ints r] at s
  exact ⟨a, rfl, s⟩
theorem dp_of_ints {a : Addr} {ns : List Int} (h : SqL K H a (ns.map V.int)) : Dp K H (.ref a) (dInts ns) := .lst h (dpa_of_ints ns)
/-- a pair of ints -/
abbrev dPair (p : Int × Int) : PyData := .tuple [.int p.1, .int p.2]
theorem dp_of_pair {a : Addr} {x y : Int} (h : SqT K H a [.int x, .int y]) : Dp K H (.ref a) (dPair (x, y)) := .tup h (.cons (.int x) (.cons (.int y) .nil))
abbrev dPairs (ps : List (Int × Int)) : PyData := .list (ps.map dPair)
end

theorem dpairs_get {K : PySem.W.Frag} {H : Hp} {xs : List V} {ps : List (Int × Int)} {i : Nat} {x : V} (hxs : DpAll K H xs (ps.map dPair)) (hx : xs[i]? = some x) : ∃ p c, ps[i]? = some p ∧ x = .ref c ∧ SqT K H c [.int p.1, .int p.2] := by
  obtain ⟨d, hd, hdx⟩ := dpa_get hxs hx
  rw [List.getElem?_map] at hd
  obtain ⟨p, hp, rfl⟩ := Option.map_eq_some_iff.mp hd
  obtain ⟨c, rfl, hcs⟩ := dp_pair hdx
  exact ⟨p, c, hp, rfl, hcs⟩
/-- data that may be compared: no dicts, at most n deep -/
def Sh (n : Nat) (d : PyData) : Prop := d.canLay0 = true ∧ d.depth ≤ n
theorem Sh.shaped {n : Nat} {d : PyData} (h : Sh n d) (hn : n ≤ 64) : SeqAt.shaped d = true := by
  unfold SeqAt.shaped
  rw [h.1, decide_eq_true (Nat.le_trans h.2 hn)]; rfl
theorem Sh.mono {n m : Nat} {d : PyData} (h : Sh n d) (hn : n ≤ m) : Sh m d := ⟨h.1, Nat.le_trans h.2 hn⟩
theorem sh_int {n : Nat} {i : Int} : Sh n (.int i) := ⟨rfl, Nat.zero_le _⟩
theorem sh_bool {n : Nat} {b : Bool} : Sh n (.bool b) := ⟨rfl, Nat.zero_le _⟩
theorem sh_none {n : Nat} : Sh n .none := ⟨rfl, Nat.zero_le _⟩
theorem sh_all {n : Nat} : ∀ {ds : List PyData}, (∀ d ∈ ds, Sh n d) → PyData.canLayAll0 ds = true ∧ PyData.depthAll ds ≤ n
  | [], _ => ⟨rfl, Nat.zero_le _⟩
  | d :: r, h => by
    obtain ⟨h1, h2⟩ := sh_all (ds := r) fun x hx => h x (List.mem_cons_of_mem _ hx)
    obtain ⟨h3, h4⟩ := h d List.mem_cons_self
    refine ⟨?_, ?_⟩
    · show (PyData.canLay0 d && PyData.canLayAll0 r) = true
      rw [h3, h1]; rfl
    · show max d.depth (PyData.depthAll r) ≤ n
      omega
theorem sh_list {n : Nat} {ds : List PyData} (h : ∀ d ∈ ds, Sh n d) : Sh (n + 1) (.list ds) := by
  obtain ⟨h1, h2⟩ := sh_all h
  exact ⟨h1, by show PyData.depthAll ds + 1 ≤ n + 1; omega⟩
theorem sh_tup {n : Nat} {ds : List PyData} (h : ∀ d ∈ ds, Sh n d) : Sh (n + 1) (.tuple ds) := by
  obtain ⟨h1, h2⟩ := sh_all h
  exact ⟨h1, by show PyData.depthAll ds + 1 ≤ n + 1; omega⟩
theorem sh_ints {n : Nat} (ns : List Int) : Sh (n + 1) (dInts ns) := sh_list fun d hd => by
  obtain ⟨i, _, rfl⟩ := List.mem_map.mp hd
  exact sh_int
theorem sh_pair {n : Nat} (p : Int × Int) : Sh (n + 1) (dPair p) := sh_tup fun d hd => by
  rcases List.mem_cons.mp hd with rfl | hd
  · exact sh_int
  · rcases List.mem_cons.mp hd with rfl | hd
    · exact sh_int
    · cases hd
theorem sh_pairs {n : Nat} (ps : List (Int × Int)) : Sh (n + 2) (dPairs ps) := sh_list fun d hd => by
  obtain ⟨p, _, rfl⟩ := List.mem_map.mp hd
  exact sh_pair p
theorem sh_two {n : Nat} {c d : PyData} (h1 : Sh n c) (h2 : Sh n d) : Sh (n + 1) (.tuple [c, d]) := sh_tup fun x hx => by
  rcases List.mem_cons.mp hx with rfl | hx
  · exact h1
  · rcases List.mem_cons.mp hx with rfl | hx
    · exact h2
    · cases hx
theorem Sh.refl {n : Nat} {d : PyData} (h : Sh n d) : PyData.eqv d d = true := SeqAt.eqv_refl d h.1
theorem ff_iff {P : Prop} (h : ¬ P) : false = true ↔ P := ⟨fun z => (nomatch z), fun z => (h z).elim⟩
theorem tt_iff {P : Prop} (h : P) : true = true ↔ P := ⟨fun _ => h, fun _ => rfl⟩

theorem ixN_of {n : Nat} {i : Int} (h0 : 0 ≤ i) (h1 : i < n) : ixN n i = some i.toNat := by unfold ixN; rw [if_pos h0, if_pos h1]
theorem map_erase (ns : List Int) (i : Nat) : (ns.map V.int).eraseIdx i = (ns.eraseIdx i).map V.int := by
  induction ns generalizing i with
  | nil => rfl
  | cons x r ih => cases i with
    | zero => rfl
    | succ i => show V.int x :: (r.map V.int).eraseIdx i = _; rw [ih]; rfl
theorem erase_perm {α : Type} (l : List α) (i : Nat) (h : i < l.length) : (l[i] :: l.eraseIdx i).Perm l := by
  induction l generalizing i with
  | nil => exact absurd h (by simp)
  | cons x r ih => cases i with
    | zero => exact List.Perm.refl _
    | succ i =>
      have h' : i < r.length := by simpa using h
      show (r[i] :: x :: r.eraseIdx i).Perm (x :: r)
      exact (List.Perm.swap _ _ _).trans ((ih i h').cons x)
theorem getD_memI {ns : List Int} {i : Int} (h0 : 0 ≤ i) (h1 : i < ns.length) : ns.getD i.toNat 0 ∈ ns := by
  have h : i.toNat < ns.length := by omega
  rw [List.getD_eq_getElem?_getD, List.getElem?_eq_getElem h]
  exact List.getElem_mem h
theorem not_in2 {p a b : Addr} (h1 : p ≠ a) (h2 : p ≠ b) : p ∉ [a, b] := by
  intro z
  rcases List.mem_cons.mp z with z | z
  · exact h1 z
  · rcases List.mem_cons.mp z with z | z
    · exact h2 z
    · cases z

/-! ### readings, step by step -/
section
variable {K : PySem.W.Frag} {σ : L2.St} {H : Hp} {D : Ends} {Q : VK} {ta tb te : TE} {t u : TT} {s1 s2 : TS} {QT : Bool → Hp → Prop} {QA : List V → Hp → Prop} {tr : TA} {QS : L2.St → Hp → Prop}
theorem k_seq {nx : L2.St → Hp → Prop} {rt : VK} {bk ct : L2.St → Hp → Prop} (h : s1 ⟨s2 ⟨nx, rt, bk, ct⟩, rt, bk, ct⟩ σ H) : tSeq s1 s2 ⟨nx, rt, bk, ct⟩ σ H := h
theorem k_nx {nx : L2.St → Hp → Prop} {rt : VK} {bk ct : L2.St → Hp → Prop} (h : nx σ H) : Ends.nx ⟨nx, rt, bk, ct⟩ σ H := h
theorem k_next {nx : L2.St → Hp → Prop} {rt : VK} {bk ct : L2.St → Hp → Prop} (h : nx σ H) : tNext ⟨nx, rt, bk, ct⟩ σ H := h
theorem k_cont {nx : L2.St → Hp → Prop} {rt : VK} {bk ct : L2.St → Hp → Prop} (h : ct σ H) : tCont ⟨nx, rt, bk, ct⟩ σ H := h
theorem k_brk {nx : L2.St → Hp → Prop} {rt : VK} {bk ct : L2.St → Hp → Prop} (h : bk σ H) : tBreak ⟨nx, rt, bk, ct⟩ σ H := h
theorem k_set {nx : L2.St → Hp → Prop} {rt : VK} {bk ct : L2.St → Hp → Prop} {i : Nat} (h : te σ H fun x H1 => nx (σ.set i (some x)) H1) : tAsg te (gName i) ⟨nx, rt, bk, ct⟩ σ H := h
theorem k_asg {nx : L2.St → Hp → Prop} {rt : VK} {bk ct : L2.St → Hp → Prop} {g : TG} (h : te σ H fun x H1 => g x σ H1 nx) : tAsg te g ⟨nx, rt, bk, ct⟩ σ H := h
theorem k_drop {nx : L2.St → Hp → Prop} {rt : VK} {bk ct : L2.St → Hp → Prop} (h : te σ H fun _ H1 => nx σ H1) : tDrop te ⟨nx, rt, bk, ct⟩ σ H := h
theorem k_ret {nx : L2.St → Hp → Prop} {rt : VK} {bk ct : L2.St → Hp → Prop} (h : te σ H rt) : tRet te ⟨nx, rt, bk, ct⟩ σ H := h
theorem k_retN {nx : L2.St → Hp → Prop} {rt : VK} {bk ct : L2.St → Hp → Prop} (h : rt .non H) : tRetN ⟨nx, rt, bk, ct⟩ σ H := h
theorem k_aug {nx : L2.St → Hp → Prop} {rt : VK} {bk ct : L2.St → Hp → Prop} {i : Nat} {f : Int → Int → Int} {a : Int} (e : σ[i]? = some (some (.int a))) (h : te σ H fun y H1 => ipI f (.int a) y H1 fun z H2 => nx (σ.set i (some z)) H2) : tAug i te (ipI f) ⟨nx, rt, bk, ct⟩ σ H := ⟨_, e, h⟩
theorem k_augL {nx : L2.St → Hp → Prop} {rt : VK} {bk ct : L2.St → Hp → Prop} {to ti : TE} (h : to σ H fun o H1 => ti σ H1 fun i H2 => rGetL K o i H2 fun x H3 => te σ H3 fun y H4 => ipI (fun i j => i + j) x y H4 fun z H5 => rSetL o i z H5 fun H6 => nx σ H6) : xAugL K to ti te ⟨nx, rt, bk, ct⟩ σ H := h
theorem k_ipI {f : Int → Int → Int} {a b : Int} (h : Q (.int (f a b)) H) : ipI f (.int a) (.int b) H Q := ⟨a, b, rfl, rfl, h⟩
theorem k_if (h : t σ H fun b H1 => if b = true then s1 D σ H1 else s2 D σ H1) : tIfS t s1 s2 D σ H := h
theorem k_var {i : Nat} {v : V} (e : σ[i]? = some (some v)) (h : Q v H) : tVar i σ H Q := ⟨v, e, h⟩
theorem k_c {v : V} (h : Q v H) : tC v σ H Q := h
theorem k_op {r : R2} (h : ta σ H fun x H1 => tb σ H1 fun y H2 => r x y H2 Q) : tOp r ta tb σ H Q := h
theorem k_un {r : V → Hp → VK → Prop} (h : ta σ H fun x H1 => r x H1 Q) : tUn r ta σ H Q := h
theorem k_I0 {g : Int → Int → V} {i j : Int} (h : Q (g i j) H) : rI0 g (.int i) (.int j) H Q := ⟨i, j, rfl, rfl, h⟩
theorem k_I {C : Int → Int → Prop} {g : Int → Int → V} {i j : Int} (hc : C i j) (h : Q (g i j) H) : rI C g (.int i) (.int j) H Q := ⟨i, j, rfl, rfl, hc, h⟩
theorem k_add {i j : Int} (h : Q (.int (i + j)) H) : xAdd (.int i) (.int j) H Q := ⟨i, j, rfl, rfl, h⟩
theorem k_sub {i j : Int} (h : Q (.int (i - j)) H) : xSub (.int i) (.int j) H Q := ⟨i, j, rfl, rfl, h⟩
theorem k_mul {i j : Int} (hc : CMul i j) (h : Q (.int (i * j)) H) : xMul (.int i) (.int j) H Q := ⟨i, j, rfl, rfl, hc, h⟩
theorem k_mulW {i j : Int} (hc : CMulW i j) (h : Q (.int (i * j)) H) : xMulW (.int i) (.int j) H Q := ⟨i, j, rfl, rfl, hc, h⟩
theorem k_div {i j : Int} (hc : CDiv i j) (h : Q (.int (i / j)) H) : xDiv (.int i) (.int j) H Q := ⟨i, j, rfl, rfl, hc, h⟩
theorem k_divW {i j : Int} (hc : CDivW i j) (h : Q (.int (i / j)) H) : xDivW (.int i) (.int j) H Q := ⟨i, j, rfl, rfl, hc, h⟩
theorem k_mod {i j : Int} (hc : 0 < j) (h : Q (.int (i % j)) H) : xMod (.int i) (.int j) H Q := ⟨i, j, rfl, rfl, hc, h⟩
theorem k_pow {i j : Int} (hc : CPow i j) (h : Q (.int (i ^ j.toNat)) H) : xPow (.int i) (.int j) H Q := ⟨i, j, rfl, rfl, hc, h⟩
theorem k_lt {i j : Int} (h : Q (.bl (decide (i < j))) H) : xLt (.int i) (.int j) H Q := ⟨i, j, rfl, rfl, h⟩
theorem k_le {i j : Int} (h : Q (.bl (decide (i ≤ j))) H) : xLe (.int i) (.int j) H Q := ⟨i, j, rfl, rfl, h⟩
theorem k_gt {i j : Int} (h : Q (.bl (decide (j < i))) H) : xGt (.int i) (.int j) H Q := ⟨i, j, rfl, rfl, h⟩
theorem k_ge {i j : Int} (h : Q (.bl (decide (j ≤ i))) H) : xGe (.int i) (.int j) H Q := ⟨i, j, rfl, rfl, h⟩
theorem k_neg {i : Int} (h : Q (.int (-i)) H) : xNeg (.int i) H Q := ⟨i, rfl, h⟩
theorem k_U {g : Int → V} {i : Int} (h : Q (g i) H) : rU g (.int i) H Q := ⟨i, rfl, h⟩
theorem k_eqI {i j : Int} (h : Q (.bl (decide (i = j))) H) : rEq (.int i) (.int j) H Q := ⟨rfl, by
  have e : decide (V.int i = V.int j) = decide (i = j) := by
    by_cases c : i = j
    · rw [decide_eq_true c, decide_eq_true (by rw [c])]
    · rw [decide_eq_false c, decide_eq_false (fun z => c (V.int.inj z))]
  rw [e]; exact h⟩
theorem k_neI {i j : Int} (h : Q (.bl (!decide (i = j))) H) : rNe (.int i) (.int j) H Q := ⟨rfl, by
  have e : decide (V.int i = V.int j) = decide (i = j) := by
    by_cases c : i = j
    · rw [decide_eq_true c, decide_eq_true (by rw [c])]
    · rw [decide_eq_false c, decide_eq_false (fun z => c (V.int.inj z))]
  rw [e]; exact h⟩
theorem k_test (h : te σ H fun x H1 => ∃ k, x = .bl k ∧ QT k H1) : tTest te σ H QT := h
theorem k_B (h : te σ H fun x H1 => ∃ k, x = .bl k ∧ QT k H1) : tB te σ H QT := h
theorem k_bl {b : Bool} {R : Bool → Prop} (h : R b) : ∃ k, V.bl b = .bl k ∧ R k := ⟨b, rfl, h⟩
theorem k_and (h : t σ H fun c H1 => if c = true then u σ H1 QT else QT false H1) : tAnd t u σ H QT := h
theorem k_or (h : t σ H fun c H1 => if c = true then QT true H1 else u σ H1 QT) : tOr t u σ H QT := h
theorem k_not (h : t σ H fun c H1 => QT (!c) H1) : tNot t σ H QT := h
theorem k_notV (h : ta σ H fun x H1 => ∃ c, x = .bl c ∧ Q (.bl (!c)) H1) : tNotV ta σ H Q := h
theorem k_andV (h : ta σ H fun x H1 => ∃ c, x = .bl c ∧ if c = true then tb σ H1 Q else Q (.bl false) H1) : tAndV ta tb σ H Q := h
theorem k_orV (h : ta σ H fun x H1 => ∃ c, x = .bl c ∧ if c = true then Q (.bl true) H1 else tb σ H1 Q) : tOrV ta tb σ H Q := h
theorem k_cb {r : List V → Hp → VK → Prop} (h : tr σ H fun vs H1 => r vs H1 Q) : tCB r tr σ H Q := h
theorem k_nil (h : QA [] H) : tNil σ H QA := h
theorem k_cons (h : ta σ H fun x H1 => tr σ H1 fun xs H2 => QA (x :: xs) H2) : tCons ta tr σ H QA := h
theorem k_call {sp : Sp} {dvs : List V} {E : XK} (h : tr σ H fun vs H1 => sp (vs ++ dvs) H1 Q E) : tCall sp dvs E tr σ H Q := h
theorem k_len {p : Addr} {ys : List V} (hs : SqL K H p ys) (h : Q (.int ys.length) H) : rLenX K [.ref p] H Q := ⟨p, ys, rfl, .inl hs, h⟩
theorem k_len0 {p : Addr} (hs : H p = some (.lst [])) (h : Q (.int 0) H) : rLenX K [.ref p] H Q := ⟨p, [], rfl, .inl (sl hs), h⟩
theorem k_lenT {p : Addr} {ys : List V} (hs : SqT K H p ys) (h : Q (.int ys.length) H) : rLenX K [.ref p] H Q := ⟨p, ys, rfl, .inr hs, h⟩
theorem k_lenI {p : Addr} {ns : List Int} (hs : SqL K H p (ns.map V.int)) (h : Q (.int ns.length) H) : rLenX K [.ref p] H Q := ⟨p, _, rfl, .inl hs, by rw [List.length_map]; exact h⟩
theorem k_list {p : Addr} {ys : List V} (hs : SqL K H p ys) (h : ∀ l, H l = none → Q (.ref l) (upd H l (.lst ys))) : rListOf K [.ref p] H Q := ⟨p, ys, rfl, .inl hs, h⟩
theorem k_lst (h : tr σ H fun xs H1 => xs.length ≤ sizeLine ∧ ∀ p, H1 p = none → Q (.ref p) (upd H1 p (.lst xs))) : tLst tr σ H Q := h
theorem k_tup (h : tr σ H fun xs H1 => xs.length ≤ sizeLine ∧ ∀ p, H1 p = none → Q (.ref p) (upd H1 p (.tup xs))) : tTup tr σ H Q := h
theorem k_new {xs : List V} {R : Addr → Prop} (hn : xs.length ≤ 100000) (h : ∀ p, H p = none → R p) : xs.length ≤ sizeLine ∧ ∀ p, H p = none → R p := ⟨sz hn, h⟩
theorem k_gtup {n : Nat} {g : TGs} {a : Addr} {xs : List V} (hs : SqT K H a xs) (hn : xs.length = n) (h : g xs σ H QS) : gTup K n g (.ref a) σ H QS := ⟨a, xs, rfl, hs, hn, h⟩
theorem k_gunl {n : Nat} {g : TGs} {a : Addr} {xs : List V} (hs : SqL K H a xs) (hn : xs.length = n) (h : g xs σ H QS) : gUnl K n g (.ref a) σ H QS := ⟨a, xs, rfl, hs, hn, h⟩
theorem k_gcons {g : TG} {gs : TGs} {v : V} {r : List V} (h : g v σ H fun σ' H' => gs r σ' H' QS) : gCons g gs (v :: r) σ H QS := ⟨v, r, rfl, h⟩
theorem k_gnil (h : QS σ H) : gNil [] σ H QS := ⟨rfl, h⟩
theorem k_gname {i : Nat} {v : V} (h : QS (σ.set i (some v)) H) : gName i v σ H QS := h
theorem k_gsub {to ti : TE} {ts : TSet} {v : V} (h : to σ H fun o H1 => ti σ H1 fun i H2 => ts o i v H2 fun H3 => QS σ H3) : gSub to ti ts v σ H QS := h
theorem k_setL {p : Addr} {xs : List V} {k : Int} {j : Nat} {v : V} {QH : Hp → Prop} (hp : H p = some (.lst xs)) (hj : ixN xs.length k = some j) (h : QH (upd H p (.lst (xs.set j v)))) : rSetL (.ref p) (.int k) v H QH := ⟨p, xs, k, j, rfl, rfl, hp, hj, h⟩
theorem k_ixL {p : Addr} {xs : List V} {i : Int} {v : V} (hs : SqL K H p xs) (ha : atI xs i = some v) (h : Q v H) : rIxL K (.ref p) (.int i) H Q := ⟨p, xs, i, v, rfl, rfl, hs, ha, h⟩
theorem k_ixT {p : Addr} {xs : List V} {i : Int} {v : V} (hs : SqT K H p xs) (ha : atI xs i = some v) (h : Q v H) : rIxT K (.ref p) (.int i) H Q := ⟨p, xs, i, v, rfl, rfl, hs, ha, h⟩
theorem k_min {p : Addr} {ns : List Int} (hs : SqL K H p (ns.map V.int)) (h0 : 0 < ns.length) (h : ∀ m, m ∈ ns → (∀ y, y ∈ ns → m ≤ y) → Q (.int m) H) : rMin K [.ref p] H Q := ⟨p, ns, rfl, hs, h0, h⟩
theorem k_max {p : Addr} {ns : List Int} (hs : SqL K H p (ns.map V.int)) (h0 : 0 < ns.length) (h : ∀ m, m ∈ ns → (∀ y, y ∈ ns → y ≤ m) → Q (.int m) H) : rMax K [.ref p] H Q := ⟨p, ns, rfl, hs, h0, h⟩
theorem k_popI {p : Addr} {ns : List Int} {i : Int} (hp : H p = some (.lst (ns.map V.int))) (h0 : 0 ≤ i) (h1 : i < ns.length) (h2 : i < 1000000) (h : Q (.int (ns.getD i.toNat 0)) (upd H p (.lst ((ns.eraseIdx i.toNat).map V.int)))) : rPopAt (.ref p) [.int i] H Q := by
  refine ⟨p, _, i, i.toNat, .int (ns.getD i.toNat 0), rfl, rfl, hp, by omega, by omega, ?_, ?_, ?_⟩
  · exact (ixN_seq (ixN_of h0 (by rw [List.length_map]; exact h1))).1
  · have hh : i.toNat < ns.length := by omega
    rw [List.getElem?_map, List.getElem?_eq_getElem hh]
    simp [List.getD_eq_getElem?_getD, List.getElem?_eq_getElem hh]
  · have e : (ns.map V.int).eraseIdx i.toNat = (ns.eraseIdx i.toNat).map V.int := map_erase ns _
    rw [e]; exact h
theorem k_sortedI {a : Addr} {ns : List Int} (hs : SqL K H a (ns.map V.int)) (h : ∀ (ns' : List Int) (p : Addr), ns'.Perm ns → ns'.Pairwise (· ≤ ·) → H p = none → Q (.ref p) (upd H p (.lst (ns'.map V.int)))) : rSortedI K [.ref a] H Q := ⟨a, ns, rfl, hs, h⟩
theorem k_max2 {i j : Int} (h : Q (.int (if j > i then j else i)) H) : rMax2 [.int i, .int j] H Q := ⟨i, j, rfl, h⟩
theorem k_min2 {i j : Int} (h : Q (.int (if j < i then j else i)) H) : rMin2 [.int i, .int j] H Q := ⟨i, j, rfl, h⟩
theorem k_bm {T : String} {r : V → List V → Hp → VK → Prop} (h : ta σ H fun x H1 => tyV K T x H1 ∧ tr σ H1 fun xs H2 => r x xs H2 Q) : tBM K T r ta tr σ H Q := h
theorem k_bm0 {T : String} {r : V → List V → Hp → VK → Prop} (h : ta σ H fun x H1 => tyV K T x H1 ∧ r x [] H1 Q) : tBM0 K T r ta σ H Q := h
theorem k_cat {p q : Addr} {xs ys : List V} (hp : H p = some (.lst xs)) (hq : H q = some (.lst ys)) (hz : xs.length + ys.length ≤ 100000) (h : ∀ l, H l = none → Q (.ref l) (upd H l (.lst (xs ++ ys)))) : rCat (.ref p) (.ref q) H Q := ⟨p, q, xs, ys, rfl, rfl, hp, hq, sz hz, h⟩
theorem k_tyL {p : Addr} {xs : List V} {R : Prop} (hp : SqL K H p xs) (h : R) : tyV K "list" (.ref p) H ∧ R := ⟨.inl ⟨rfl, _, hp⟩, h⟩
theorem k_append {p : Addr} {xs : List V} {y : V} (hp : H p = some (.lst xs)) (hn : xs.length < 100000) (h : Q .non (upd H p (.lst (xs ++ [y])))) : rAppend (.ref p) [y] H Q := ⟨p, xs, y, rfl, rfl, hp, szl hn, h⟩
theorem k_itT {b : Bool} {A B : Prop} (e : b = true) (h : A) : if b = true then A else B := by rw [if_pos e]; exact h
theorem k_itF {b : Bool} {A B : Prop} (e : b = false) (h : B) : if b = true then A else B := by rw [e]; exact h
theorem iteNT {A B : Prop} (h : B) : if (!true) = true then A else B := iteF h
theorem iteNF {A B : Prop} (h : A) : if (!false) = true then A else B := iteT h
theorem k_itDT {c A B : Prop} [Decidable c] (e : c) (h : A) : if decide c = true then A else B := by rw [if_pos (decide_eq_true e)]; exact h
theorem k_itDF {c A B : Prop} [Decidable c] (e : ¬ c) (h : B) : if decide c = true then A else B := by rw [decide_eq_false e]; exact h
theorem k_itNT {c A B : Prop} [Decidable c] (e : ¬ c) (h : A) : if (!decide c) = true then A else B := by rw [decide_eq_false e]; exact h
theorem k_itNF {c A B : Prop} [Decidable c] (e : c) (h : B) : if (!decide c) = true then A else B := by rw [decide_eq_true e]; exact h
theorem k_for {nx : L2.St → Hp → Prop} {rt : VK} {bk ct : L2.St → Hp → Prop} {wi : TI} {g : TG} {tb : TS} (h : wi σ H fun J H1 => ∃ W : Nat → Nat → L2.St → Hp → Prop, (∃ m, W 0 m σ H1) ∧ ∀ i m σ H, W i m σ H →
  (J.stop i H ∧ nx σ H) ∨ (J.go i H ∧ ∃ N : L2.St → Hp → Prop, (∀ σ' H', N σ' H' → ∃ m', m' < m ∧ W (i + 1) m' σ' H') ∧ ∀ x H', J.yld i H x H' → g x σ H' fun σ2 H2 => tb ⟨N, rt, nx, N⟩ σ2 H2)) : tFor wi g tb ⟨nx, rt, bk, ct⟩ σ H := h
theorem forL {nx : L2.St → Hp → Prop} {rt : VK} {b : Addr} {xs : List V} {g : TG} {tb : TS} (hs0 : SqL K H b xs) (Pv : Nat → L2.St → Hp → Prop) (h0 : Pv 0 σ H) (hl : ∀ i σ H, i ≤ xs.length → Pv i σ H → SqL K H b xs)
    (hs : ∀ (i : Nat) x σ H, xs[i]? = some x → Pv i σ H → g x σ H fun σ2 H2 => tb ⟨Pv (i + 1), rt, nx, Pv (i + 1)⟩ σ2 H2) (hd : ∀ σ H, Pv xs.length σ H → nx σ H) :
    ∃ a, V.ref b = .ref a ∧ (∃ xs, SqL K H a xs) ∧ ∃ W : Nat → Nat → L2.St → Hp → Prop, (∃ m, W 0 m σ H) ∧ ∀ i m σ H, W i m σ H →
      ((Itl K a).stop i H ∧ nx σ H) ∨ ((Itl K a).go i H ∧ ∃ N : L2.St → Hp → Prop, (∀ σ' H', N σ' H' → ∃ m', m' < m ∧ W (i + 1) m' σ' H') ∧ ∀ x H', (Itl K a).yld i H x H' → g x σ H' fun σ2 H2 => tb ⟨N, rt, nx, N⟩ σ2 H2) :=
  ⟨b, rfl, ⟨xs, hs0⟩, for_list (D := ⟨nx, rt, fun _ _ => False, fun _ _ => False⟩) Pv h0 hl hs hd⟩
theorem forR {nx : L2.St → Hp → Prop} {rt : VK} {lo : Int} {n : Nat} {g : TG} {tb : TS} (Pv : Nat → L2.St → Hp → Prop) (h0 : Pv 0 σ H)
    (hs : ∀ (i : Nat) σ H, i < n → Pv i σ H → g (.int (lo + i)) σ H fun σ2 H2 => tb ⟨Pv (i + 1), rt, nx, Pv (i + 1)⟩ σ2 H2) (hd : ∀ σ H, Pv n σ H → nx σ H) :
    ∃ W : Nat → Nat → L2.St → Hp → Prop, (∃ m, W 0 m σ H) ∧ ∀ i m σ H, W i m σ H →
      ((Itr lo n).stop i H ∧ nx σ H) ∨ ((Itr lo n).go i H ∧ ∃ N : L2.St → Hp → Prop, (∀ σ' H', N σ' H' → ∃ m', m' < m ∧ W (i + 1) m' σ' H') ∧ ∀ x H', (Itr lo n).yld i H x H' → g x σ H' fun σ2 H2 => tb ⟨N, rt, nx, N⟩ σ2 H2) :=
  for_range (D := ⟨nx, rt, fun _ _ => False, fun _ _ => False⟩) Pv h0 hs hd
theorem k_while {nx : L2.St → Hp → Prop} {rt : VK} {bk ct : L2.St → Hp → Prop} {c : TT} {tb : TS} (h : ∃ W : Nat → L2.St → Hp → Prop, (∃ m, W m σ H) ∧ ∀ m σ H, W m σ H →
  c σ H fun b H1 => if b = true then ∃ N : L2.St → Hp → Prop, (∀ σ' H', N σ' H' → ∃ m', m' < m ∧ W m' σ' H') ∧ tb ⟨N, rt, nx, N⟩ σ H1 else nx σ H1) : tWhile c tb ⟨nx, rt, bk, ct⟩ σ H := h
theorem whileW {nx : L2.St → Hp → Prop} {rt : VK} {bk ct : L2.St → Hp → Prop} {c : TT} {tb : TS} (W : Nat → L2.St → Hp → Prop) {m0 : Nat} (h0 : W m0 σ H)
    (hs : ∀ m σ H, W m σ H → c σ H fun b H1 => if b = true then tb ⟨fun σ' H' => ∃ m', m' < m ∧ W m' σ' H', rt, nx, fun σ' H' => ∃ m', m' < m ∧ W m' σ' H'⟩ σ H1 else nx σ H1)
    (mono : ∀ σ H (Q Q' : Bool → Hp → Prop), (∀ b H1, Q b H1 → Q' b H1) → c σ H Q → c σ H Q') : tWhile c tb ⟨nx, rt, bk, ct⟩ σ H := by
  refine ⟨W, ⟨m0, h0⟩, fun m σ H w => mono σ H _ _ (fun b H1 q => ?_) (hs m σ H w)⟩
  cases b with
  | true => exact ⟨_, fun σ' H' h => h, q⟩
  | false => exact q
theorem k_iList {R : It → Hp → Prop} (h : te σ H fun x H1 => ∃ a, x = .ref a ∧ (∃ xs, SqL K H1 a xs) ∧ R (Itl K a) H1) : iList K te σ H R := h
theorem k_iTup {R : It → Hp → Prop} (h : te σ H fun x H1 => ∃ a, x = .ref a ∧ (∃ xs, SqT K H1 a xs) ∧ R (Itt K a) H1) : iTup K te σ H R := h
theorem k_iZip {R : It → Hp → Prop} (h : tr σ H fun vs H1 => ∃ a b xs ys, vs = [.ref a, .ref b] ∧ SqL K H1 a xs ∧ SqL K H1 b ys ∧ R (Itz K a b) H1) : iZip K tr σ H R := h
theorem k_iEnum {R : It → Hp → Prop} (h : tr σ H fun vs H1 => ∃ a xs, vs = [.ref a] ∧ SqL K H1 a xs ∧ R (Ite K a) H1) : iEnum K tr σ H R := h
theorem k_iRng1 {R : It → Hp → Prop} (h : tr σ H fun vs H1 => ∃ j : Int, vs = [.int j] ∧ -(2 ^ 62) ≤ j ∧ j < 2 ^ 62 ∧ R (Itr 0 j.toNat) H1) : iRng1 tr σ H R := h
theorem k_iRng2 {R : It → Hp → Prop} (h : tr σ H fun vs H1 => ∃ i j : Int, vs = [.int i, .int j] ∧ (-(2 ^ 62) ≤ i ∧ i < 2 ^ 62 ∧ -(2 ^ 62) ≤ j ∧ j < 2 ^ 62) ∧ R (Itr i (j - i).toNat) H1) : iRng2 tr σ H R := h
theorem k_rj1 {j : Int} {R : Int → Prop} (h1 : -(2 ^ 62) ≤ j) (h2 : j < 2 ^ 62) (h : R j) : ∃ j' : Int, [V.int j] = [.int j'] ∧ -(2 ^ 62) ≤ j' ∧ j' < 2 ^ 62 ∧ R j' := ⟨j, rfl, h1, h2, h⟩
theorem k_rj2 {i j : Int} {R : Int → Int → Prop} (h1 : -(2 ^ 62) ≤ i ∧ i < 2 ^ 62 ∧ -(2 ^ 62) ≤ j ∧ j < 2 ^ 62) (h : R i j) : ∃ i' j' : Int, [V.int i, V.int j] = [.int i', .int j'] ∧ (-(2 ^ 62) ≤ i' ∧ i' < 2 ^ 62 ∧ -(2 ^ 62) ≤ j' ∧ j' < 2 ^ 62) ∧ R i' j' := ⟨i, j, rfl, h1, h⟩
theorem k_it {c A B : Prop} [Decidable c] (h1 : c → A) (h2 : ¬ c → B) : if decide c = true then A else B := by
  by_cases h : c
  · rw [if_pos (decide_eq_true h)]; exact h1 h
  · rw [decide_eq_false h]; exact h2 h
theorem k_itn {c A B : Prop} [Decidable c] (h1 : ¬ c → A) (h2 : c → B) : if (!decide c) = true then A else B := by
  by_cases h : c
  · rw [decide_eq_true h]; exact h2 h
  · rw [decide_eq_false h]; exact h1 h
theorem k_itb {b : Bool} {A B : Prop} (h1 : b = true → A) (h2 : b = false → B) : if b = true then A else B := by
  cases b with
  | true => exact h1 rfl
  | false => exact h2 rfl
theorem k_isi {x : V} {c : String} {tx : String} {b : Bool} (ht : TyX K H x (.type tx)) (hb : kitB tx c = some b) (h : Q (.bl b) H) : rIsi K [x, .ty c] H Q := ⟨x, .ty c, .type tx, .type c, b, rfl, .ty c, ht, kit_ty hb, h⟩

theorem ty_list {p : Addr} {xs : List V} (h : SqL K H p xs) : TyX K H (.ref p) (.type "list") := by
  rcases h with (h | ⟨o, h⟩) | ⟨o, its, n, h, c, _⟩
  · exact .base (.lst h)
  · exact .base (.frz h)
  · exact .kList h c
theorem k_isiL {p : Addr} {xs : List V} (hs : SqL K H p xs) (h : Q (.bl true) H) : rIsi K [.ref p, .ty "list"] H Q := k_isi (ty_list hs) (by decide +kernel) h
theorem k_isiLI {i : Int} (h : Q (.bl false) H) : rIsi K [.int i, .ty "list"] H Q := k_isi (.base (.int i)) (by decide +kernel) h
theorem k_isiI {i : Int} (h : Q (.bl true) H) : rIsi K [.int i, .ty "int"] H Q := k_isi (.base (.int i)) (by decide +kernel) h
theorem k_isiB {i : Int} (h : Q (.bl false) H) : rIsi K [.int i, .ty "bool"] H Q := k_isi (.base (.int i)) (by decide +kernel) h
theorem inV_ints (x : Int) : ∀ ns : List Int, inV (.int x) (ns.map V.int) = decide (x ∈ ns)
  | [] => rfl
  | n :: r => by
    show (eqV (.int n) (.int x) || inV (.int x) (r.map V.int)) = decide (x ∈ n :: r)
    rw [inV_ints x r]
    show ((n == x) || decide (x ∈ r)) = decide (x ∈ n :: r)
    by_cases h : n = x
    · subst h; simp
    · have : (n == x) = false := by simp [h]
      rw [this, Bool.false_or]
      have h' : ¬ x = n := fun e => h e.symm
      simp [h']
theorem flat_ints : ∀ ns : List Int, (ns.map V.int).all flatV = true
  | [] => rfl
  | _ :: r => by show (true && (r.map V.int).all flatV) = true; rw [flat_ints r]; rfl
theorem k_inI {p : Addr} {ns : List Int} {x : Int} (hs : SqL K H p (ns.map V.int)) (h : Q (.bl (decide (x ∈ ns))) H) : rIn K false (.int x) (.ref p) H Q :=
  ⟨p, _, rfl, .inl hs, rfl, flat_ints ns, by rw [if_neg Bool.false_ne_true, inV_ints]; exact h⟩
theorem k_notInI {p : Addr} {ns : List Int} {x : Int} (hs : SqL K H p (ns.map V.int)) (h : Q (.bl (!decide (x ∈ ns))) H) : rIn K true (.int x) (.ref p) H Q :=
  ⟨p, _, rfl, .inl hs, rfl, flat_ints ns, by rw [if_pos rfl, inV_ints]; exact h⟩
theorem k_intB {b : Bool} (h : Q (.int (if b then 1 else 0)) H) : rIntOf [.bl b] H Q := .inr ⟨b, rfl, h⟩
theorem at_int {ns : List Int} {i : Int} (h0 : 0 ≤ i) (h1 : i < ns.length) : atI (ns.map V.int) i = some (.int (ns.getD i.toNat 0)) := by
  obtain ⟨k, rfl⟩ : ∃ k : Nat, i = k := ⟨i.toNat, by omega⟩
  have h : k < ns.length := by omega
  refine atI_nat ?_
  rw [List.getElem?_map]
  simp [List.getElem?_eq_getElem h, List.getD_eq_getElem?_getD]
theorem k_ixI {p : Addr} {ns : List Int} {i : Int} (hs : SqL K H p (ns.map V.int)) (h0 : 0 ≤ i) (h1 : i < ns.length) (h : Q (.int (ns.getD i.toNat 0)) H) : rIxL K (.ref p) (.int i) H Q := k_ixL hs (at_int h0 h1) h
theorem k_eqD {x y : V} {c d : PyData} {n : Nat} (hx : Dp K H x c) (hy : Dp K H y d) (h1 : Sh n c) (h2 : Sh n d) (hn : n ≤ 64) (h : Q (.bl (PyData.eqv c d)) H) : rEqD K x y H Q := ⟨c, d, hx, hy, h1.shaped hn, h2.shaped hn, h⟩
theorem k_neD {x y : V} {c d : PyData} {n : Nat} (hx : Dp K H x c) (hy : Dp K H y d) (h1 : Sh n c) (h2 : Sh n d) (hn : n ≤ 64) (h : Q (.bl (!PyData.eqv c d)) H) : rNeD K x y H Q := ⟨c, d, hx, hy, h1.shaped hn, h2.shaped hn, h⟩
theorem k_neD0 {x y : V} {c : PyData} {n : Nat} (hx : Dp K H x c) (hy : Dp K H y c) (h1 : Sh n c) (hn : n ≤ 64) (h : Q (.bl false) H) : rNeD K x y H Q := k_neD hx hy h1 h1 hn (by rw [h1.refl]; exact h)
theorem k_eqD1 {x y : V} {c : PyData} {n : Nat} (hx : Dp K H x c) (hy : Dp K H y c) (h1 : Sh n c) (hn : n ≤ 64) (h : Q (.bl true) H) : rEqD K x y H Q := k_eqD hx hy h1 h1 hn (by rw [h1.refl]; exact h)
theorem k_getI {p : Addr} {ns : List Int} {i : Int} (hs : SqL K H p (ns.map V.int)) (h0 : 0 ≤ i) (h1 : i < ns.length) (h : Q (.int (ns.getD i.toNat 0)) H) : rGetL K (.ref p) (.int i) H Q := ⟨p, _, i, _, rfl, rfl, hs, h0, at_int h0 h1, h⟩
theorem k_setI {p : Addr} {ns : List Int} {k v : Int} {QH : Hp → Prop} (hp : H p = some (.lst (ns.map V.int))) (h0 : 0 ≤ k) (h1 : k < ns.length) (h : QH (upd H p (.lst ((ns.set k.toNat v).map V.int)))) : rSetL (.ref p) (.int k) (.int v) H QH :=
  ⟨p, _, k, k.toNat, rfl, rfl, hp, ixN_of h0 (by rw [List.length_map]; exact h1), by rw [List.map_set] at h; exact h⟩
theorem k_rep {p : Addr} {xs : List V} {k : Int} (hp : H p = some (.lst xs)) (h0 : 0 ≤ k) (h1 : k < 100000) (h2 : xs.length * k.toNat ≤ 100000) (h : ∀ l, H l = none → Q (.ref l) (upd H l (.lst (List.replicate k.toNat xs).flatten))) : rRep (.ref p) (.int k) H Q := ⟨p, k, xs, rfl, rfl, hp, by omega, by omega, sz h2, h⟩
theorem k_eqB {a b : Bool} (h : Q (.bl (decide (a = b))) H) : rEq (.bl a) (.bl b) H Q := ⟨rfl, by
  have e : decide (V.bl a = V.bl b) = decide (a = b) := by cases a <;> cases b <;> decide
  rw [e]; exact h⟩
theorem k_neB {a b : Bool} (h : Q (.bl (!decide (a = b))) H) : rNe (.bl a) (.bl b) H Q := ⟨rfl, by
  have e : decide (V.bl a = V.bl b) = decide (a = b) := by cases a <;> cases b <;> decide
  rw [e]; exact h⟩
/-- new objects, the heap behind as a letter -/
theorem k_newL {xs : List V} (hn : xs.length ≤ 100000) (h : ∀ p H', H p = none → Same H H' → H' p = some (.lst xs) → Q (.ref p) H') : xs.length ≤ sizeLine ∧ ∀ p, H p = none → Q (.ref p) (upd H p (.lst xs)) :=
  ⟨sz hn, fun p np => h p _ np (same_new np) upd_same⟩
theorem k_newT {xs : List V} (hn : xs.length ≤ 100000) (h : ∀ p H', H p = none → Same H H' → H' p = some (.tup xs) → Q (.ref p) H') : xs.length ≤ sizeLine ∧ ∀ p, H p = none → Q (.ref p) (upd H p (.tup xs)) :=
  ⟨sz hn, fun p np => h p _ np (same_new np) upd_same⟩
theorem k_listN {p : Addr} {ys : List V} (hs : SqL K H p ys) (h : ∀ l H', H l = none → Same H H' → H' l = some (.lst ys) → Q (.ref l) H') : rListOf K [.ref p] H Q := k_list hs fun l nl => h l _ nl (same_new nl) upd_same
theorem k_slL {a : Addr} {xs : List V} {lo hi : Option Int} (hs : SqL K H a xs) (h : ∀ p H', H p = none → Same H H' → H' p = some (.lst (cutV xs lo hi)) → Q (.ref p) H') : rSlL K (.ref a) lo hi H Q := ⟨a, xs, rfl, hs, fun p np => h p _ np (same_new np) upd_same⟩
theorem k_sl {r : V → Option Int → Option Int → Hp → VK → Prop} {tl th : TO} (h : te σ H fun x H1 => tl σ H1 fun l H2 => th σ H2 fun u H3 => r x l u H3 Q) : tSl r te tl th σ H Q := h
theorem k_nopart {QO : Option Int → Hp → Prop} (h : QO none H) : tNoPart σ H QO := h
theorem k_part {QO : Option Int → Hp → Prop} (h : te σ H fun x H1 => ∃ i, x = .int i ∧ QO (some i) H1) : tPart te σ H QO := h
theorem k_int {i : Int} {R : Int → Prop} (h : R i) : ∃ j, V.int i = .int j ∧ R j := ⟨i, rfl, h⟩
theorem rg_ints (a b : Int) : rgV a b = ((List.range (b - a).toNat).map fun i => a + (i : Nat)).map V.int := by
  unfold rgV; rw [List.map_map]; rfl
theorem k_listRg {tg : L2.St → Hp → (Int → Int → Hp → Prop) → Prop} (h : tg σ H fun a b H1 => RgOk a b ∧ ∀ q, H1 q = none → Q (.ref q) (upd H1 q (.lst (rgV a b)))) : tLstRg tg σ H Q := h
theorem k_rg1 {QR : Int → Int → Hp → Prop} (h : ta σ H fun x H1 => ∃ n, x = .int n ∧ QR 0 n H1) : tRg1 ta σ H QR := h
theorem k_rg2 {QR : Int → Int → Hp → Prop} (h : ta σ H fun x H1 => tb σ H1 fun y H2 => ∃ i j, x = .int i ∧ y = .int j ∧ QR i j H2) : tRg2 ta tb σ H QR := h
theorem k_int2 {i j : Int} {R : Int → Int → Prop} (h : R i j) : ∃ i' j', V.int i = .int i' ∧ V.int j = .int j' ∧ R i' j' := ⟨i, j, rfl, rfl, h⟩
theorem k_rgN {a b : Int} (hr : RgOk a b) (h : ∀ p H', H p = none → Same H H' → H' p = some (.lst (rgV a b)) → Q (.ref p) H') : RgOk a b ∧ ∀ q, H q = none → Q (.ref q) (upd H q (.lst (rgV a b))) := ⟨hr, fun q nq => h q _ nq (same_new nq) upd_same⟩
theorem dp_of_int {i j : Int} (e : i = j) : Dp K H (.int i) (.int j) := e ▸ .int i
end
/-! ### heaps with some places out of sight -/
def hid (S : List Addr) (H : Hp) : Hp := fun b => if b ∈ S then none else H b
theorem hid_ne {S : List Addr} {H : Hp} {b : Addr} (h : b ∉ S) : hid S H b = H b := if_neg h
theorem hid_in {S : List Addr} {H : Hp} {b : Addr} (h : b ∈ S) : hid S H b = none := if_pos h
theorem hid_some {S : List Addr} {H : Hp} {b : Addr} {o : HO} (h : hid S H b = some o) : b ∉ S ∧ H b = some o := by
  unfold hid at h
  split at h
  · cases h
  · exact ⟨by assumption, h⟩
theorem hid_same (S : List Addr) (H : Hp) : Same (hid S H) H := fun b o h => (hid_some h).2
theorem hid_mono {S : List Addr} {H H' : Hp} (e : Same H H') : Same (hid S H) (hid S H') := fun b o h => by
  obtain ⟨n, h⟩ := hid_some h
  rw [hid_ne n]
  exact e b o h
theorem hid_sub {S S' : List Addr} {H : Hp} (h : ∀ a ∈ S, a ∈ S') : Same (hid S' H) (hid S H) := fun b o e => by
  obtain ⟨n, e⟩ := hid_some e
  rw [hid_ne fun z => n (h b z)]
  exact e
/-- a change at a hidden place -/
theorem hid_upd {S : List Addr} {H : Hp} {p : Addr} {o : HO} (h : p ∈ S) : hid S (upd H p o) = hid S H := by
  funext b
  unfold hid
  split
  · rfl
  · rename_i n
    rw [upd_ne fun e => n (by rw [e]; exact h)]
theorem same_hid_upd {S : List Addr} {H0 H : Hp} {p : Addr} {o : HO} (e : Same H0 (hid S H)) (h : p ∈ S) : Same H0 (hid S (upd H p o)) := by rw [hid_upd h]; exact e
/-- what the law's data says stays when a fresh object is changed -/
theorem same_hid_mut {S : List Addr} {H0 H : Hp} {p : Addr} {o : HO} (e : Same H0 (hid S H)) (h : H0 p = none) : Same H0 (hid S (upd H p o)) := fun b u hb => by
  have := e b u hb
  obtain ⟨n, q⟩ := hid_some this
  rw [hid_ne n, upd_ne (ne_of_none hb h)]
  exact q
theorem hid_more {S S' : List Addr} {H H' : Hp} (e : Same (hid S H) (hid S H')) (h : ∀ a ∈ S, a ∈ S') : Same (hid S' H) (hid S' H') := fun b o hb => by
  obtain ⟨n, q⟩ := hid_some hb
  have n' : b ∉ S := fun z => n (h b z)
  have := e b o (by rw [hid_ne n']; exact q)
  rw [hid_ne n'] at this
  rw [hid_ne n]
  exact this
theorem same_hid_new {S : List Addr} {H : Hp} {p : Addr} {o : HO} (h : H p = none) : Same (hid S H) (hid S (upd H p o)) := hid_mono (same_new h)

theorem same_of_hid {S : List Addr} {H0 H1 H2 : Hp} (h : Same H0 H1) (f : ∀ a ∈ S, H0 a = none) (e : Same (hid S H1) (hid S H2)) : Same H0 H2 := fun b o hb => by
  have n : b ∉ S := fun z => by rw [f b z] at hb; cases hb
  have := e b o (by rw [hid_ne n]; exact h b o hb)
  rw [hid_ne n] at this
  exact this
theorem free1 {H0 : Hp} {p : Addr} (h : H0 p = none) : ∀ a ∈ [p], H0 a = none := fun a z => by rw [List.mem_singleton.mp z]; exact h
theorem cutTo {ns : List Int} (k : Nat) : cutV (ns.map V.int) none (some (k : Int)) = (ns.take k).map V.int := by
  unfold cutV
  rw [HT.sIx_none, HT.sIx_nat, List.drop_zero, List.length_map, Nat.sub_zero, List.map_take]
  by_cases h : k ≤ ns.length
  · rw [Nat.min_eq_left h]
  · rw [Nat.min_eq_right (by omega), List.take_of_length_le (by simp), List.take_of_length_le (by simp; omega)]
/-! ### the law's purse: a list of the cells and the turn -/
structure Pu (H : Hp) (pu ce : Addr) (n : Nat) (t : Int) : Prop where
  hp : H pu = some (.lst [.ref ce, .int t])
  hc : ∃ cs : List Int, cs.length = n ∧ H ce = some (.lst (cs.map V.int))
  n0 : 0 < n
  n1 : n ≤ 63
  t0 : 0 ≤ t
theorem Pu.ne {H : Hp} {pu ce : Addr} {n : Nat} {t : Int} (h : Pu H pu ce n t) : pu ≠ ce := fun e => by
  obtain ⟨cs, hl, hc⟩ := h.hc
  have hp := h.hp
  rw [e, hc] at hp
  cases cs with
  | nil => injection hp with hp; injection hp with hp; cases hp
  | cons x r => injection hp with hp; injection hp with hp; injection hp with h1 h2; cases h1
theorem Pu.fresh {H : Hp} {pu ce : Addr} {n : Nat} {t : Int} (h : Pu H pu ce n t) {p : Addr} (np : H p = none) : p ∉ [pu, ce] := fun z => by
  obtain ⟨cs, hl, hc⟩ := h.hc
  rcases List.mem_cons.mp z with rfl | z
  · rw [h.hp] at np; cases np
  · rcases List.mem_cons.mp z with rfl | z
    · rw [hc] at np; cases np
    · cases z
theorem Pu.upd {H : Hp} {pu ce : Addr} {n : Nat} {t : Int} (h : Pu H pu ce n t) {p : Addr} {o : HO} (np : p ∉ [pu, ce]) : Pu (upd H p o) pu ce n t := by
  have h1 : pu ≠ p := fun e => np (by rw [e]; exact List.mem_cons_self)
  have h2 : ce ≠ p := fun e => np (by rw [e]; exact List.mem_cons_of_mem _ List.mem_cons_self)
  obtain ⟨cs, hl, hc⟩ := h.hc
  exact ⟨by rw [upd_ne h1]; exact h.hp, ⟨cs, hl, by rw [upd_ne h2]; exact hc⟩, h.n0, h.n1, h.t0⟩
theorem Pu.same {H H' : Hp} {pu ce : Addr} {n : Nat} {t : Int} (h : Pu H pu ce n t) (e : Same H H') : Pu H' pu ce n t := by
  obtain ⟨cs, hl, hc⟩ := h.hc
  exact ⟨e _ _ h.hp, ⟨cs, hl, e _ _ hc⟩, h.n0, h.n1, h.t0⟩
/-- an object that is none of the purse's stays as it is -/
theorem keeps {S : List Addr} {H H' : Hp} (e : Same (hid S H) (hid S H')) {b : Addr} {o : HO} (hb : H b = some o) (n : b ∉ S) : H' b = some o := by
  have := e b o (by rw [hid_ne n]; exact hb)
  rw [hid_ne n] at this
  exact this
theorem fresh_hid {S : List Addr} {H H' : Hp} (e : Same (hid S H) (hid S H')) {b : Addr} (hb : H' b = none) (n : b ∉ S) : H b = none := by
  have := e.free (l := b) (by rw [hid_ne n]; exact hb)
  rw [hid_ne n] at this
  exact this
theorem getD_set_len {α : Type} (l : List α) (i : Nat) (v : α) : (l.set i v).length = l.length := List.length_set
theorem map_set_int (cs : List Int) (i : Nat) (v : Int) : (cs.map V.int).set i (.int v) = (cs.set i v).map V.int := by rw [List.map_set]

/-! ### the law's other purse: [a number, a mark, how many were drawn] -/
structure Le (H : Hp) (pu : Addr) (k : Int) : Prop where
  hp : ∃ x f : Int, H pu = some (.lst [.int x, .int f, .int k]) ∧ (f = 0 → 0 ≤ x ∧ x < 2147483629)
  k0 : 0 ≤ k
theorem Le.fresh {H : Hp} {pu : Addr} {k : Int} (h : Le H pu k) {p : Addr} (np : H p = none) : p ∉ [pu] := fun z => by
  obtain ⟨x, f, hp, _⟩ := h.hp
  rw [List.mem_singleton.mp z, hp] at np
  cases np
theorem Le.upd {H : Hp} {pu : Addr} {k : Int} (h : Le H pu k) {p : Addr} {o : HO} (np : p ∉ [pu]) : Le (upd H p o) pu k := by
  obtain ⟨x, f, hp, hx⟩ := h.hp
  exact ⟨⟨x, f, by rw [upd_ne fun e => np (by rw [e]; exact List.mem_singleton.mpr rfl)]; exact hp, hx⟩, h.k0⟩
theorem Le.same {H H' : Hp} {pu : Addr} {k : Int} (h : Le H pu k) (e : Same H H') : Le H' pu k := by
  obtain ⟨x, f, hp, hx⟩ := h.hp
  exact ⟨⟨x, f, e _ _ hp, hx⟩, h.k0⟩

/-! ### comprehensions whose block leaves the heap as it is -/
section
variable {K : PySem.W.Frag} {σ : L2.St} {H1 : Hp} {Q : VK} {g : TG} {tt : TT} {te : TE} {vs : List Nat}
theorem k_lc {wi : TI} (h : wi σ H1 fun J H1 => ∀ D, H1 D = none → ∃ W : Nat → Nat → Hp → Prop, (∃ m, W 0 m (upd H1 D (.lst []))) ∧ ∀ i m H, W i m H →
  (J.stop i H ∧ Q (.ref D) H) ∨ (J.go i H ∧ ∃ Nx : Hp → Prop, (∀ H', Nx H' → ∃ m', m' < m ∧ W (i + 1) m' H') ∧ ∀ x H', J.yld i H x H' → g x (wipe σ vs) H' fun σ2 H2 => wipe σ2 vs = wipe σ vs ∧ tt σ2 H2 fun b H3 =>
    if b = true then te σ2 H3 fun y H4 => ∃ acc, H4 D = some (.lst acc) ∧ acc.length < sizeLine ∧ Nx (upd H4 D (.lst (acc ++ [y]))) else Nx H3)) : tLc wi g tt te vs σ H1 Q := h
theorem k_wipe {σ' : L2.St} {R : Prop} (e : wipe σ' vs = wipe σ vs) (h : R) : wipe σ' vs = wipe σ vs ∧ R := ⟨e, h⟩
theorem k_yes {QT : Bool → Hp → Prop} (h : QT true H1) : tYes σ H1 QT := h
theorem take_filterMap {α β : Type} {f : α → Option β} {ps : List α} {i : Nat} {p : α} (h : ps[i]? = some p) : (ps.take (i + 1)).filterMap f = (ps.take i).filterMap f ++ (f p).toList := by
  rw [List.take_add_one, h, List.filterMap_append]
  simp [List.filterMap_cons]
  cases f p <;> rfl
/-- over a list of which ps tells the items -/
theorem lc_pure {QD : Addr → Hp → Prop} {α : Type} {a : Addr} {xs : List V} (hs : SqL K H1 a xs) (ps : List α) (hl : xs.length = ps.length) (hz : ps.length ≤ 50000) (f : α → Option V)
    (step : ∀ (i : Nat) x p H', xs[i]? = some x → ps[i]? = some p → Same H1 H' → ∀ (R : V → Hp → Prop) (R0 : Hp → Prop), (∀ y, f p = some y → R y H') → (f p = none → R0 H') →
      g x (wipe σ vs) H' fun σ2 H2 => wipe σ2 vs = wipe σ vs ∧ tt σ2 H2 fun b H3 => if b = true then te σ2 H3 R else R0 H3)
    (h : ∀ D H', H1 D = none → Same H1 H' → H' D = some (.lst (ps.filterMap f)) → QD D H') :
    ∃ a', V.ref a = .ref a' ∧ (∃ xs, SqL K H1 a' xs) ∧ ∀ D, H1 D = none → ∃ W : Nat → Nat → Hp → Prop, (∃ m, W 0 m (upd H1 D (.lst []))) ∧ ∀ i m H, W i m H →
      ((Itl K a').stop i H ∧ QD D H) ∨ ((Itl K a').go i H ∧ ∃ Nx : Hp → Prop, (∀ H', Nx H' → ∃ m', m' < m ∧ W (i + 1) m' H') ∧ ∀ x H', (Itl K a').yld i H x H' → g x (wipe σ vs) H' fun σ2 H2 => wipe σ2 vs = wipe σ vs ∧ tt σ2 H2 fun b H3 =>
        if b = true then te σ2 H3 fun y H4 => ∃ acc, H4 D = some (.lst acc) ∧ acc.length < sizeLine ∧ Nx (upd H4 D (.lst (acc ++ [y]))) else Nx H3) := by
  refine ⟨a, rfl, ⟨xs, hs⟩, fun D nD => lc_list (xs := xs) (fun i H => Same H1 H ∧ H D = some (.lst ((ps.take i).filterMap f))) ⟨same_new nD, by rw [upd_same]; simp⟩ (fun i H _ e => e.1.seq hs) ?_ ?_⟩
  · rintro i x H hx ⟨sm, hD⟩
    have hi : i < xs.length := (List.getElem?_eq_some_iff.mp hx).1
    obtain ⟨p, hp⟩ : ∃ p, ps[i]? = some p := ⟨ps[i]'(by omega), List.getElem?_eq_getElem (by omega)⟩
    have tk := take_filterMap (f := f) hp
    refine step i x p H hx hp sm _ _ (fun y hy => ⟨_, hD, szl ?_, same_mut sm nD, ?_⟩) (fun hn => ⟨sm, ?_⟩)
    · have := List.length_filterMap_le f (ps.take i)
      rw [List.length_take] at this
      omega
    · rw [upd_same, tk, hy]; rfl
    · rw [tk, hn, hD]; simp
  · rintro H ⟨sm, hD⟩
    rw [hl, List.take_length] at hD
    exact h D H nD sm hD
/-- the same where a turn may make new objects -/
theorem lc_grow {QD : Addr → Hp → Prop} {α : Type} {a : Addr} {xs : List V} (hs : SqL K H1 a xs) (ps : List α) (hl : xs.length = ps.length) (hz : ps.length ≤ 50000) (f : α → Option V)
    (step : ∀ (i : Nat) x p H', xs[i]? = some x → ps[i]? = some p → Same H1 H' → ∀ (R : V → Hp → Prop) (R0 : Hp → Prop), (∀ y H'', f p = some y → Same H' H'' → R y H'') → (∀ H'', f p = none → Same H' H'' → R0 H'') →
      g x (wipe σ vs) H' fun σ2 H2 => wipe σ2 vs = wipe σ vs ∧ tt σ2 H2 fun b H3 => if b = true then te σ2 H3 R else R0 H3)
    (h : ∀ D H', H1 D = none → Same H1 H' → H' D = some (.lst (ps.filterMap f)) → QD D H') :
    ∃ a', V.ref a = .ref a' ∧ (∃ xs, SqL K H1 a' xs) ∧ ∀ D, H1 D = none → ∃ W : Nat → Nat → Hp → Prop, (∃ m, W 0 m (upd H1 D (.lst []))) ∧ ∀ i m H, W i m H →
      ((Itl K a').stop i H ∧ QD D H) ∨ ((Itl K a').go i H ∧ ∃ Nx : Hp → Prop, (∀ H', Nx H' → ∃ m', m' < m ∧ W (i + 1) m' H') ∧ ∀ x H', (Itl K a').yld i H x H' → g x (wipe σ vs) H' fun σ2 H2 => wipe σ2 vs = wipe σ vs ∧ tt σ2 H2 fun b H3 =>
        if b = true then te σ2 H3 fun y H4 => ∃ acc, H4 D = some (.lst acc) ∧ acc.length < sizeLine ∧ Nx (upd H4 D (.lst (acc ++ [y]))) else Nx H3) := by
  refine ⟨a, rfl, ⟨xs, hs⟩, fun D nD => lc_list (xs := xs) (fun i H => Same H1 H ∧ H D = some (.lst ((ps.take i).filterMap f))) ⟨same_new nD, by rw [upd_same]; simp⟩ (fun i H _ e => e.1.seq hs) ?_ ?_⟩
  · rintro i x H hx ⟨sm, hD⟩
    have hi : i < xs.length := (List.getElem?_eq_some_iff.mp hx).1
    obtain ⟨p, hp⟩ : ∃ p, ps[i]? = some p := ⟨ps[i]'(by omega), List.getElem?_eq_getElem (by omega)⟩
    have tk := take_filterMap (f := f) hp
    refine step i x p H hx hp sm _ _ (fun y H'' hy s2 => ⟨_, s2 _ _ hD, szl ?_, same_mut (sm.trans s2) nD, ?_⟩) (fun H'' hn s2 => ⟨sm.trans s2, ?_⟩)
    · have := List.length_filterMap_le f (ps.take i)
      rw [List.length_take] at this
      omega
    · rw [upd_same, tk, hy]; rfl
    · rw [tk, hn, s2 _ _ hD]; simp
  · rintro H ⟨sm, hD⟩
    rw [hl, List.take_length] at hD
    exact h D H nD sm hD
theorem range_take {n i : Nat} (h : i < n) : (List.range n)[i]? = some i := by simp [h]
/-- over a range -/
theorem lc_pureR {QD : Addr → Hp → Prop} {lo : Int} {n : Nat} (hz : n ≤ 50000) (f : Nat → Option V)
    (step : ∀ (i : Nat) H', i < n → Same H1 H' → ∀ (R : V → Hp → Prop) (R0 : Hp → Prop), (∀ y, f i = some y → R y H') → (f i = none → R0 H') →
      g (.int (lo + (i : Nat))) (wipe σ vs) H' fun σ2 H2 => wipe σ2 vs = wipe σ vs ∧ tt σ2 H2 fun b H3 => if b = true then te σ2 H3 R else R0 H3)
    (h : ∀ D H', H1 D = none → Same H1 H' → H' D = some (.lst ((List.range n).filterMap f)) → QD D H') :
    ∀ D, H1 D = none → ∃ W : Nat → Nat → Hp → Prop, (∃ m, W 0 m (upd H1 D (.lst []))) ∧ ∀ i m H, W i m H →
      ((Itr lo n).stop i H ∧ QD D H) ∨ ((Itr lo n).go i H ∧ ∃ Nx : Hp → Prop, (∀ H', Nx H' → ∃ m', m' < m ∧ W (i + 1) m' H') ∧ ∀ x H', (Itr lo n).yld i H x H' → g x (wipe σ vs) H' fun σ2 H2 => wipe σ2 vs = wipe σ vs ∧ tt σ2 H2 fun b H3 =>
        if b = true then te σ2 H3 fun y H4 => ∃ acc, H4 D = some (.lst acc) ∧ acc.length < sizeLine ∧ Nx (upd H4 D (.lst (acc ++ [y]))) else Nx H3) := by
  refine fun D nD => lc_range (fun i H => Same H1 H ∧ H D = some (.lst (((List.range n).take i).filterMap f))) ⟨same_new nD, by rw [upd_same]; simp⟩ ?_ ?_
  · rintro i H hi ⟨sm, hD⟩
    have tk := take_filterMap (f := f) (range_take hi)
    refine step i H hi sm _ _ (fun y hy => ⟨_, hD, szl ?_, same_mut sm nD, ?_⟩) (fun hn => ⟨sm, ?_⟩)
    · have := List.length_filterMap_le f ((List.range n).take i)
      rw [List.length_take, List.length_range] at this
      omega
    · rw [upd_same, tk, hy]; rfl
    · rw [tk, hn, hD]; simp
  · rintro H ⟨sm, hD⟩
    rw [List.take_of_length_le (by simp)] at hD
    exact h D H nD sm hD
end
/-! ### min, max of a pair -/
def rMinT (K : PySem.W.Frag) : List V → Hp → VK → Prop := fun xs H Q => ∃ (p : Addr) (a b : Int), xs = [.ref p] ∧ SqT K H p [.int a, .int b] ∧ Q (.int (min a b)) H
def rMaxT (K : PySem.W.Frag) : List V → Hp → VK → Prop := fun xs H Q => ∃ (p : Addr) (a b : Int), xs = [.ref p] ∧ SqT K H p [.int a, .int b] ∧ Q (.int (max a b)) H
theorem reads_int {h : Heap} {v : Value} {n : Int} {as : List Addr} (r : Reads h v (.int n) as) : ∃ t, v = .int n t := by
  cases r; exact ⟨_, rfl⟩
theorem alike2 (a b : Int) : PySem.W.AlikeAll [.int a, .int b] := by
  refine ⟨fun x hx y hy => ?_, fun x hx => ?_⟩
  · simp only [List.mem_cons, List.not_mem_nil, or_false] at hx hy
    rcases hx with rfl | rfl <;> rcases hy with rfl | rfl <;> rfl
  · simp only [List.mem_cons, List.not_mem_nil, or_false] at hx
    rcases hx with rfl | rfl <;> (intro z; cases z)
theorem q_minT {X : Cx} (hc : X.calm = true) (hu : X.A.units + 64 < cLine) : CallR X (.builtin "min") (rMinT X.K) := by
  intro pins s σ H vs us Q I r h
  obtain ⟨p, a, b, rfl, hs, q⟩ := h
  obtain ⟨its, rv, hl, _⟩ := I.tuple hs
  rw [Vals.ref1 r]
  have ri : IntsAre its [a, b] := Vals.ints (ns := [a, b]) rv
  refine PySem.W.min_tuple_data (x := .int a) (xs := [.int b]) (as := []) (I.ok.hd hc) hl (ri.reads _) (alike2 a b) ?_ fun i v h' tk bs hi rd hk => ?_
  · have : PyData.depthAll [.int a, .int b] = 0 := rfl
    omega
  · rw [show PySem.W.minD (.int a) [.int b] = .int (min a b) from PySem.W.minD_ints a [b]] at rd
    obtain ⟨t, rfl⟩ := reads_int rd
    exact ⟨.int _, H, I.kept hk, ⟨_, rfl⟩, q⟩
theorem q_maxT {X : Cx} (hc : X.calm = true) (hu : X.A.units + 64 < cLine) : CallR X (.builtin "max") (rMaxT X.K) := by
  intro pins s σ H vs us Q I r h
  obtain ⟨p, a, b, rfl, hs, q⟩ := h
  obtain ⟨its, rv, hl, _⟩ := I.tuple hs
  rw [Vals.ref1 r]
  have ri : IntsAre its [a, b] := Vals.ints (ns := [a, b]) rv
  refine PySem.W.max_tuple_data (x := .int a) (xs := [.int b]) (as := []) (I.ok.hd hc) hl (ri.reads _) (alike2 a b) ?_ fun i v h' tk bs hi rd hk => ?_
  · have : PyData.depthAll [.int a, .int b] = 0 := rfl
    omega
  · rw [show PySem.W.maxD (.int a) [.int b] = .int (max a b) from PySem.W.maxD_ints a [b]] at rd
    obtain ⟨t, rfl⟩ := reads_int rd
    exact ⟨.int _, H, I.kept hk, ⟨_, rfl⟩, q⟩
theorem k_minT {K : PySem.W.Frag} {H : Hp} {Q : VK} {p : Addr} {a b : Int} (hs : SqT K H p [.int a, .int b]) (h : Q (.int (min a b)) H) : rMinT K [.ref p] H Q := ⟨p, a, b, rfl, hs, h⟩
theorem k_maxT {K : PySem.W.Frag} {H : Hp} {Q : VK} {p : Addr} {a b : Int} (hs : SqT K H p [.int a, .int b]) (h : Q (.int (max a b)) H) : rMaxT K [.ref p] H Q := ⟨p, a, b, rfl, hs, h⟩
end Cm

namespace Cm
open PySem PySem.Spec PyProof.Rows L2
/-! ### steps of a reading, found by instances -/
class Stp (p : Prop) (q : outParam Prop) : Prop where
  run : q → p
class Stps (p : Prop) (q : outParam Prop) : Prop where
  run : q → p
class Stps1 (p : Prop) (q : outParam Prop) : Prop where
  run : q → p
instance (priority := low) stps_nil {p : Prop} : Stps p p := ⟨id⟩
instance (priority := high) stps_cons {p q r : Prop} [a : Stp p q] [b : Stps q r] : Stps p r := ⟨fun h => a.run (b.run h)⟩
instance stps_one {p q r : Prop} [a : Stp p q] [b : Stps q r] : Stps1 p r := ⟨fun h => a.run (b.run h)⟩
theorem go {p q : Prop} [a : Stps1 p q] (h : q) : p := a.run h
class Slot (σ : L2.St) (i : Nat) (v : outParam V) : Prop where
  get : σ[i]? = some (some v)
instance {v : V} {r : L2.St} : Slot (some v :: r) 0 v := ⟨rfl⟩
instance {x : Option V} {v : V} {r : L2.St} {i : Nat} [a : Slot r i v] : Slot (x :: r) (i + 1) v := ⟨a.get⟩
class Put (σ : L2.St) (i : Nat) (v : Option V) (σ' : outParam L2.St) : Prop where
  eq : σ.set i v = σ'
instance {x v : Option V} {r : L2.St} : Put (x :: r) 0 v (v :: r) := ⟨rfl⟩
instance {x v : Option V} {r r' : L2.St} {i : Nat} [a : Put r i v r'] : Put (x :: r) (i + 1) v (x :: r') := ⟨by rw [List.set_cons_succ, a.eq]⟩
instance {σ σ0 σ' : L2.St} {j : Nat} {w : Option V} {i : Nat} {v : Option V} [a : Put σ j w σ0] [b : Put σ0 i v σ'] : Put (List.set σ j w) i v σ' := ⟨by rw [a.eq, b.eq]⟩
instance {σ σ0 : L2.St} {j : Nat} {w : Option V} {i : Nat} {v : V} [a : Put σ j w σ0] [b : Slot σ0 i v] : Slot (List.set σ j w) i v := ⟨by rw [a.eq, b.get]⟩
class Wip (σ : L2.St) (vs : List Nat) (σ' : outParam L2.St) : Prop where
  eq : wipe σ vs = σ'
instance {σ : L2.St} : Wip σ [] σ := ⟨rfl⟩
instance {σ σ' σ'' : L2.St} {i : Nat} {vs : List Nat} [b : Wip σ vs σ'] [a : Put σ' i none σ''] : Wip σ (i :: vs) σ'' := ⟨by
  show (wipe σ vs).set i none = σ''
  rw [b.eq, a.eq]⟩
instance {σ σ0 σ' : L2.St} {vs : List Nat} {i : Nat} {v : Option V} [a : Wip σ vs σ0] [b : Put σ0 i v σ'] : Put (wipe σ vs) i v σ' := ⟨by rw [a.eq, b.eq]⟩
/-- a new list, a new tuple -/
def newL (xs : List V) (H : Hp) (Q : VK) : Prop := xs.length ≤ sizeLine ∧ ∀ p, H p = none → Q (.ref p) (upd H p (.lst xs))
def newT (xs : List V) (H : Hp) (Q : VK) : Prop := xs.length ≤ sizeLine ∧ ∀ p, H p = none → Q (.ref p) (upd H p (.tup xs))
def newR (a b : Int) (H : Hp) (Q : VK) : Prop := RgOk a b ∧ ∀ q, H q = none → Q (.ref q) (upd H q (.lst (rgV a b)))
theorem kL {xs : List V} {H : Hp} {Q : VK} (hn : xs.length ≤ 100000) (h : ∀ p H', H p = none → Same H H' → H' p = some (.lst xs) → Q (.ref p) H') : newL xs H Q := ⟨sz hn, fun p np => h p _ np (same_new np) upd_same⟩
theorem kT {xs : List V} {H : Hp} {Q : VK} (hn : xs.length ≤ 100000) (h : ∀ p H', H p = none → Same H H' → H' p = some (.tup xs) → Q (.ref p) H') : newT xs H Q := ⟨sz hn, fun p np => h p _ np (same_new np) upd_same⟩
theorem kR {a b : Int} {H : Hp} {Q : VK} (hr : RgOk a b) (h : ∀ p H', H p = none → Same H H' → H' p = some (.lst (rgV a b)) → Q (.ref p) H') : newR a b H Q := ⟨hr, fun q nq => h q _ nq (same_new nq) upd_same⟩
section
variable {K : PySem.W.Frag} {σ σ' : L2.St} {H : Hp} {D : Ends} {Q : VK} {ta tb tc te to ti : TE} {t u : TT} {s1 s2 : TS} {QT : Bool → Hp → Prop} {QA : List V → Hp → Prop} {tr : TA} {QS : L2.St → Hp → Prop} {nx bk ct : L2.St → Hp → Prop} {rt : VK} {g : TG} {gs : TGs} {i j : Nat} {v w : V} {a b : Int} {wi : TI} {tS : TS}
instance : Stp (tSeq s1 s2 ⟨nx, rt, bk, ct⟩ σ H) (s1 ⟨s2 ⟨nx, rt, bk, ct⟩, rt, bk, ct⟩ σ H) := ⟨k_seq⟩
instance : Stp (tNext ⟨nx, rt, bk, ct⟩ σ H) (nx σ H) := ⟨k_next⟩
instance : Stp (tCont ⟨nx, rt, bk, ct⟩ σ H) (ct σ H) := ⟨k_cont⟩
instance : Stp (tBreak ⟨nx, rt, bk, ct⟩ σ H) (bk σ H) := ⟨k_brk⟩
instance : Stp (tAsg te g ⟨nx, rt, bk, ct⟩ σ H) (te σ H fun x H1 => g x σ H1 nx) := ⟨k_asg⟩
instance : Stp (tDrop te ⟨nx, rt, bk, ct⟩ σ H) (te σ H fun _ H1 => nx σ H1) := ⟨k_drop⟩
instance : Stp (tRet te ⟨nx, rt, bk, ct⟩ σ H) (te σ H rt) := ⟨k_ret⟩
instance : Stp (tRetN ⟨nx, rt, bk, ct⟩ σ H) (rt .non H) := ⟨k_retN⟩
instance {f : Int → Int → Int} [e : Slot σ i (.int a)] : Stp (tAug i te (ipI f) ⟨nx, rt, bk, ct⟩ σ H) (te σ H fun y H1 => ipI f (.int a) y H1 fun z H2 => gName i z σ H2 nx) := ⟨fun h => k_aug e.get h⟩
instance {f : Int → Int → Int} : Stp (ipI f (.int a) (.int b) H Q) (Q (.int (f a b)) H) := ⟨k_ipI⟩
instance : Stp (xAugL K to ti te ⟨nx, rt, bk, ct⟩ σ H) (to σ H fun o H1 => ti σ H1 fun i H2 => rGetL K o i H2 fun x H3 => te σ H3 fun y H4 => ipI (fun i j => i + j) x y H4 fun z H5 => rSetL o i z H5 fun H6 => nx σ H6) := ⟨k_augL⟩
instance : Stp (tIfS t s1 s2 D σ H) (t σ H fun b H1 => if b = true then s1 D σ H1 else s2 D σ H1) := ⟨k_if⟩
instance [e : Slot σ i v] : Stp (tVar i σ H Q) (Q v H) := ⟨fun h => k_var e.get h⟩
instance : Stp (tC v σ H Q) (Q v H) := ⟨k_c⟩
instance {r : R2} : Stp (tOp r ta tb σ H Q) (ta σ H fun x H1 => tb σ H1 fun y H2 => r x y H2 Q) := ⟨k_op⟩
instance {r : V → Hp → VK → Prop} : Stp (tUn r ta σ H Q) (ta σ H fun x H1 => r x H1 Q) := ⟨k_un⟩
instance : Stp (xAdd (.int a) (.int b) H Q) (Q (.int (a + b)) H) := ⟨k_add⟩
instance : Stp (xSub (.int a) (.int b) H Q) (Q (.int (a - b)) H) := ⟨k_sub⟩
instance : Stp (xLt (.int a) (.int b) H Q) (Q (.bl (decide (a < b))) H) := ⟨k_lt⟩
instance : Stp (xLe (.int a) (.int b) H Q) (Q (.bl (decide (a ≤ b))) H) := ⟨k_le⟩
instance : Stp (xGt (.int a) (.int b) H Q) (Q (.bl (decide (b < a))) H) := ⟨k_gt⟩
instance : Stp (xGe (.int a) (.int b) H Q) (Q (.bl (decide (b ≤ a))) H) := ⟨k_ge⟩
instance : Stp (xNeg (.int a) H Q) (Q (.int (-a)) H) := ⟨k_neg⟩
instance : Stp (rEq (.int a) (.int b) H Q) (Q (.bl (decide (a = b))) H) := ⟨k_eqI⟩
instance : Stp (rNe (.int a) (.int b) H Q) (Q (.bl (!decide (a = b))) H) := ⟨k_neI⟩
instance {a b : Bool} : Stp (rEq (.bl a) (.bl b) H Q) (Q (.bl (decide (a = b))) H) := ⟨k_eqB⟩
instance {a b : Bool} : Stp (rNe (.bl a) (.bl b) H Q) (Q (.bl (!decide (a = b))) H) := ⟨k_neB⟩
theorem k_eqNN (h : Q (.bl true) H) : rEq .non .non H Q := ⟨rfl, h⟩
theorem k_isN0 (h : Q (.bl true) H) : xIsN .non .non H Q := ⟨rfl, h⟩
theorem k_isNr {p : Addr} (h : Q (.bl false) H) : xIsN (.ref p) .non H Q := ⟨rfl, by rw [decide_eq_false (by intro z; cases z)]; exact h⟩
theorem k_isNi (h : Q (.bl false) H) : xIsN (.int a) .non H Q := ⟨rfl, by rw [decide_eq_false (by intro z; cases z)]; exact h⟩
theorem k_notN0 (h : Q (.bl false) H) : xNotN .non .non H Q := ⟨rfl, h⟩
theorem k_notNr {p : Addr} (h : Q (.bl true) H) : xNotN (.ref p) .non H Q := ⟨rfl, by rw [decide_eq_false (by intro z; cases z)]; exact h⟩
theorem k_notNi (h : Q (.bl true) H) : xNotN (.int a) .non H Q := ⟨rfl, by rw [decide_eq_false (by intro z; cases z)]; exact h⟩
instance : Stp (xIsN .non .non H Q) (Q (.bl true) H) := ⟨k_isN0⟩
instance {p : Addr} : Stp (xIsN (.ref p) .non H Q) (Q (.bl false) H) := ⟨k_isNr⟩
instance : Stp (xIsN (.int a) .non H Q) (Q (.bl false) H) := ⟨k_isNi⟩
instance : Stp (xNotN .non .non H Q) (Q (.bl false) H) := ⟨k_notN0⟩
instance {p : Addr} : Stp (xNotN (.ref p) .non H Q) (Q (.bl true) H) := ⟨k_notNr⟩
instance : Stp (xNotN (.int a) .non H Q) (Q (.bl true) H) := ⟨k_notNi⟩
instance : Stp (tTest te σ H QT) (te σ H fun x H1 => ∃ k, x = .bl k ∧ QT k H1) := ⟨k_test⟩
instance : Stp (tB te σ H QT) (te σ H fun x H1 => ∃ k, x = .bl k ∧ QT k H1) := ⟨k_B⟩
instance {b : Bool} {R : Bool → Prop} : Stp (∃ k, V.bl b = .bl k ∧ R k) (R b) := ⟨k_bl⟩
instance {R : Int → Prop} : Stp (∃ j, V.int a = .int j ∧ R j) (R a) := ⟨k_int⟩
instance {R : Int → Int → Prop} : Stp (∃ i' j', V.int a = .int i' ∧ V.int b = .int j' ∧ R i' j') (R a b) := ⟨k_int2⟩
instance : Stp (tAnd t u σ H QT) (t σ H fun c H1 => if c = true then u σ H1 QT else QT false H1) := ⟨k_and⟩
instance : Stp (tOr t u σ H QT) (t σ H fun c H1 => if c = true then QT true H1 else u σ H1 QT) := ⟨k_or⟩
instance : Stp (tNot t σ H QT) (t σ H fun c H1 => QT (!c) H1) := ⟨k_not⟩
instance : Stp (tNotV ta σ H Q) (ta σ H fun x H1 => ∃ c, x = .bl c ∧ Q (.bl (!c)) H1) := ⟨k_notV⟩
instance : Stp (tAndV ta tb σ H Q) (ta σ H fun x H1 => ∃ c, x = .bl c ∧ if c = true then tb σ H1 Q else Q (.bl false) H1) := ⟨k_andV⟩
instance : Stp (tOrV ta tb σ H Q) (ta σ H fun x H1 => ∃ c, x = .bl c ∧ if c = true then Q (.bl true) H1 else tb σ H1 Q) := ⟨k_orV⟩
instance {r : List V → Hp → VK → Prop} : Stp (tCB r tr σ H Q) (tr σ H fun vs H1 => r vs H1 Q) := ⟨k_cb⟩
instance : Stp (tNil σ H QA) (QA [] H) := ⟨k_nil⟩
instance : Stp (tCons ta tr σ H QA) (ta σ H fun x H1 => tr σ H1 fun xs H2 => QA (x :: xs) H2) := ⟨k_cons⟩
instance {sp : Sp} {E : XK} : Stp (tCall sp [] E tr σ H Q) (tr σ H fun vs H1 => sp vs H1 Q E) := ⟨fun h => k_call (by simpa only [List.append_nil] using h)⟩
instance : Stp (tLst tr σ H Q) (tr σ H fun xs H1 => newL xs H1 Q) := ⟨k_lst⟩
instance : Stp (tTup tr σ H Q) (tr σ H fun xs H1 => newT xs H1 Q) := ⟨k_tup⟩
instance {r : List V} : Stp (gCons g gs (v :: r) σ H QS) (g v σ H fun σ' H' => gs r σ' H' QS) := ⟨k_gcons⟩
instance : Stp (gNil [] σ H QS) (QS σ H) := ⟨k_gnil⟩
instance [e : Put σ i (some v) σ'] : Stp (gName i v σ H QS) (QS σ' H) := ⟨fun h => k_gname (by rw [e.eq]; exact h)⟩
instance {ts : TSet} : Stp (gSub to ti ts v σ H QS) (to σ H fun o H1 => ti σ H1 fun i H2 => ts o i v H2 fun H3 => QS σ H3) := ⟨k_gsub⟩
instance : Stp (rMax2 [.int a, .int b] H Q) (Q (.int (if b > a then b else a)) H) := ⟨k_max2⟩
instance : Stp (rMin2 [.int a, .int b] H Q) (Q (.int (if b < a then b else a)) H) := ⟨k_min2⟩
instance {T : String} {r : V → List V → Hp → VK → Prop} : Stp (tBM K T r ta tr σ H Q) (ta σ H fun x H1 => tyV K T x H1 ∧ tr σ H1 fun xs H2 => r x xs H2 Q) := ⟨k_bm⟩
instance {T : String} {r : V → List V → Hp → VK → Prop} : Stp (tBM0 K T r ta σ H Q) (ta σ H fun x H1 => tyV K T x H1 ∧ r x [] H1 Q) := ⟨k_bm0⟩
instance {A B : Prop} {i : Decidable (true = true)} : Stp (@ite Prop (true = true) i A B) A := ⟨fun h => by rw [if_pos rfl]; exact h⟩
instance {A B : Prop} {i : Decidable (false = true)} : Stp (@ite Prop (false = true) i A B) B := ⟨fun h => by rw [if_neg (by simp)]; exact h⟩
instance {A B : Prop} {i : Decidable ((!true) = true)} : Stp (@ite Prop ((!true) = true) i A B) B := ⟨fun h => by rw [if_neg (by simp)]; exact h⟩
instance {A B : Prop} {i : Decidable ((!false) = true)} : Stp (@ite Prop ((!false) = true) i A B) A := ⟨fun h => by rw [if_pos (by simp)]; exact h⟩
instance : Stp (tFor wi g tS ⟨nx, rt, bk, ct⟩ σ H) (wi σ H fun J H1 => ∃ W : Nat → Nat → L2.St → Hp → Prop, (∃ m, W 0 m σ H1) ∧ ∀ i m σ H, W i m σ H →
  (J.stop i H ∧ nx σ H) ∨ (J.go i H ∧ ∃ N : L2.St → Hp → Prop, (∀ σ' H', N σ' H' → ∃ m', m' < m ∧ W (i + 1) m' σ' H') ∧ ∀ x H', J.yld i H x H' → g x σ H' fun σ2 H2 => tS ⟨N, rt, nx, N⟩ σ2 H2)) := ⟨k_for⟩
instance {R : It → Hp → Prop} : Stp (iList K te σ H R) (te σ H fun x H1 => ∃ a, x = .ref a ∧ (∃ xs, SqL K H1 a xs) ∧ R (Itl K a) H1) := ⟨k_iList⟩
instance {R : It → Hp → Prop} : Stp (iTup K te σ H R) (te σ H fun x H1 => ∃ a, x = .ref a ∧ (∃ xs, SqT K H1 a xs) ∧ R (Itt K a) H1) := ⟨k_iTup⟩
instance {R : It → Hp → Prop} : Stp (iZip K tr σ H R) (tr σ H fun vs H1 => ∃ a b xs ys, vs = [.ref a, .ref b] ∧ SqL K H1 a xs ∧ SqL K H1 b ys ∧ R (Itz K a b) H1) := ⟨k_iZip⟩
instance {R : It → Hp → Prop} : Stp (iEnum K tr σ H R) (tr σ H fun vs H1 => ∃ a xs, vs = [.ref a] ∧ SqL K H1 a xs ∧ R (Ite K a) H1) := ⟨k_iEnum⟩
instance {R : It → Hp → Prop} : Stp (iRng1 tr σ H R) (tr σ H fun vs H1 => ∃ j : Int, vs = [.int j] ∧ -(2 ^ 62) ≤ j ∧ j < 2 ^ 62 ∧ R (Itr 0 j.toNat) H1) := ⟨k_iRng1⟩
instance {R : It → Hp → Prop} : Stp (iRng2 tr σ H R) (tr σ H fun vs H1 => ∃ i j : Int, vs = [.int i, .int j] ∧ (-(2 ^ 62) ≤ i ∧ i < 2 ^ 62 ∧ -(2 ^ 62) ≤ j ∧ j < 2 ^ 62) ∧ R (Itr i (j - i).toNat) H1) := ⟨k_iRng2⟩
instance {vs : List Nat} : Stp (tLc wi g t te vs σ H Q) (wi σ H fun J H1 => ∀ D, H1 D = none → ∃ W : Nat → Nat → Hp → Prop, (∃ m, W 0 m (upd H1 D (.lst []))) ∧ ∀ i m H, W i m H →
  (J.stop i H ∧ Q (.ref D) H) ∨ (J.go i H ∧ ∃ Nx : Hp → Prop, (∀ H', Nx H' → ∃ m', m' < m ∧ W (i + 1) m' H') ∧ ∀ x H', J.yld i H x H' → g x (wipe σ vs) H' fun σ2 H2 => wipe σ2 vs = wipe σ vs ∧ t σ2 H2 fun b H3 =>
    if b = true then te σ2 H3 fun y H4 => ∃ acc, H4 D = some (.lst acc) ∧ acc.length < sizeLine ∧ Nx (upd H4 D (.lst (acc ++ [y]))) else Nx H3)) := ⟨k_lc⟩
instance : Stp (tYes σ H QT) (QT true H) := ⟨k_yes⟩
instance {r : V → Option Int → Option Int → Hp → VK → Prop} {tl th : TO} : Stp (tSl r te tl th σ H Q) (te σ H fun x H1 => tl σ H1 fun l H2 => th σ H2 fun u H3 => r x l u H3 Q) := ⟨k_sl⟩
instance {QO : Option Int → Hp → Prop} : Stp (tNoPart σ H QO) (QO none H) := ⟨k_nopart⟩
instance {QO : Option Int → Hp → Prop} : Stp (tPart te σ H QO) (te σ H fun x H1 => ∃ i, x = .int i ∧ QO (some i) H1) := ⟨k_part⟩
instance {tg : L2.St → Hp → (Int → Int → Hp → Prop) → Prop} : Stp (tLstRg tg σ H Q) (tg σ H fun a b H1 => newR a b H1 Q) := ⟨k_listRg⟩
instance {QR : Int → Int → Hp → Prop} : Stp (tRg1 ta σ H QR) (ta σ H fun x H1 => ∃ n, x = .int n ∧ QR 0 n H1) := ⟨k_rg1⟩
instance {QR : Int → Int → Hp → Prop} : Stp (tRg2 ta tb σ H QR) (ta σ H fun x H1 => tb σ H1 fun y H2 => ∃ i j, x = .int i ∧ y = .int j ∧ QR i j H2) := ⟨k_rg2⟩
instance : Stp (rIsi K [.int a, .ty "int"] H Q) (Q (.bl true) H) := ⟨k_isiI⟩
instance : Stp (rIsi K [.int a, .ty "bool"] H Q) (Q (.bl false) H) := ⟨k_isiB⟩
instance : Stp (rIsi K [.int a, .ty "list"] H Q) (Q (.bl false) H) := ⟨k_isiLI⟩
instance {b : Bool} : Stp (rIntOf [.bl b] H Q) (Q (.int (if b then 1 else 0)) H) := ⟨k_intB⟩
theorem k_chain {r r' : R2} (h : ta σ H fun x H1 => tb σ H1 fun y H2 => r x y H2 fun z H3 => ∃ k, z = .bl k ∧ if k = true then tc σ H3 fun z H4 => r' y z H4 Q else Q (.bl false) H3) : tChain r r' ta tb tc σ H Q := h
instance {r r' : R2} : Stp (tChain r r' ta tb tc σ H Q) (ta σ H fun x H1 => tb σ H1 fun y H2 => r x y H2 fun z H3 => ∃ k, z = .bl k ∧ if k = true then tc σ H3 fun z H4 => r' y z H4 Q else Q (.bl false) H3) := ⟨k_chain⟩
theorem k_ifE (h : t σ H fun c H1 => if c = true then ta σ H1 Q else tb σ H1 Q) : tIf t ta tb σ H Q := h
instance : Stp (tIf t ta tb σ H Q) (t σ H fun c H1 => if c = true then ta σ H1 Q else tb σ H1 Q) := ⟨k_ifE⟩
def par2 (i j : Nat) (vs : List V) (σ : L2.St) (H : Hp) (nx : L2.St → Hp → Prop) : Prop := ∃ v w, vs = [v, w] ∧ nx ((σ.set i (some v)).set j (some w)) H
instance : Stp (tPar i j tr ⟨nx, rt, bk, ct⟩ σ H) (tr σ H fun vs H1 => par2 i j vs σ H1 nx) := ⟨fun h => h⟩
instance {σ'' : L2.St} [e : Put σ i (some v) σ'] [e2 : Put σ' j (some w) σ''] : Stp (par2 i j [v, w] σ H nx) (nx σ'' H) := ⟨fun h => ⟨v, w, rfl, by rw [e.eq, e2.eq]; exact h⟩⟩
end
/-! ### bits -/
def xShl : R2 := rI CPow fun i j => .int (i * 2 ^ j.toNat)
def xAnd : R2 := rI0 fun i j => .int (Builtin.bitAnd i j)
theorem k_shl {H : Hp} {Q : VK} {i j : Int} (hc : CPow i j) (h : Q (.int (i * 2 ^ j.toNat)) H) : xShl (.int i) (.int j) H Q := ⟨i, j, rfl, rfl, hc, h⟩
instance {H : Hp} {Q : VK} {i j : Int} : Stp (xAnd (.int i) (.int j) H Q) (Q (.int (Builtin.bitAnd i j)) H) := ⟨fun h => ⟨i, j, rfl, rfl, h⟩⟩
/-! ### list.count of flat values -/
def cntV (y : V) (ys : List V) : Nat := ys.countP fun z => eqV z y
def rCntV (K : PySem.W.Frag) : V → List V → Hp → VK → Prop := fun x xs H Q => ∃ (a : Addr) (ys : List V) (y : V), x = V.ref a ∧ xs = [y] ∧ SqL K H a ys ∧ flatV y = true ∧ ys.all flatV = true ∧ Q (.int (cntV y ys : Nat)) H
theorem cntV_eq {y : V} : ∀ {ys : List V} {its : List Value}, Vals ys its → ys.all flatV = true → its.countP (eqU y) = cntV y ys
  | _, _, .nil, _ => rfl
  | a :: as, _ :: _, .cons r rs, f => by
    have f1 : flatV a = true ∧ as.all flatV = true := by simpa using f
    unfold cntV
    rw [List.countP_cons, List.countP_cons, eqU_of r f1.1, cntV_eq rs f1.2]
    rfl
theorem mt_lcountV {X : Cx} : MtR X "list.count" (rCntV X.K) := by
  intro pins s σ H x xs v us Q I rx rxs h
  obtain ⟨a, ys, y, rfl, rfl, hs, fy, fys, q⟩ := h
  cases rx
  cases rxs with
  | cons ry rt =>
    rename_i uy ut
    cases rt
    obtain ⟨its, rv, ⟨⟨cls, dd, data, sl⟩, n, ho, hc, hdn, hd⟩, hlen⟩ := I.list hs
    simp only at hc hd
    subst hc hd
    refine call_meets PySem.F.slot_list_count ⟨_, ho, rfl⟩ PySem.F.entry_list_count (PySem.F.args_list_count_2 _ _)
      (SeqAt.list_countAt a its.toArray n dd sl uy (eqU y)) ⟨ho, fun u' hu' => mem_eqAt ry fy rv fys u' (by simpa using hu'), ?_⟩
    have ec : its.toArray.toList.countP (eqU y) = cntV y ys := cntV_eq rv fys
    refine ⟨.int (cntV y ys : Nat), H, I.tok _, ⟨s.toks, ?_⟩, q⟩
    show Value.int ((its.toArray.toList.countP (eqU y) : Nat) : Int) s.toks = Value.int ((cntV y ys : Nat) : Int) s.toks
    rw [ec]
section
variable {K : PySem.W.Frag} {H : Hp} {Q : VK}
theorem k_catN {p q : Addr} {xs ys : List V} (hp : H p = some (.lst xs)) (hq : H q = some (.lst ys)) (hz : xs.length + ys.length ≤ 100000) (h : ∀ l H', H l = none → Same H H' → H' l = some (.lst (xs ++ ys)) → Q (.ref l) H') : rCat (.ref p) (.ref q) H Q := k_cat hp hq hz fun l nl => h l _ nl (same_new nl) upd_same
theorem k_cntV {p : Addr} {ys : List V} {y : V} (hs : SqL K H p ys) (fy : flatV y = true) (fys : ys.all flatV = true) (h : Q (.int (cntV y ys : Nat)) H) : rCntV K (.ref p) [y] H Q := ⟨p, ys, y, rfl, rfl, hs, fy, fys, h⟩
theorem k_indexV {p : Addr} {ys : List V} {y z : V} {j : Nat} (hs : SqL K H p ys) (fy : flatV y = true) (fys : ys.all flatV = true) (hj : ys[j]? = some z) (hz : eqV z y = true) (hn : ∀ (m : Nat) (z' : V), m < j → ys[m]? = some z' → eqV z' y = false) (h : Q (.int (j : Nat)) H) : rIndex K (.ref p) [y] H Q := ⟨p, ys, y, j, z, rfl, rfl, hs, fy, fys, hj, hz, hn, h⟩
theorem k_sortedN {a : Addr} {ns : List Int} (hs : SqL K H a (ns.map V.int)) (h : ∀ (ns' : List Int) (p : Addr) H', ns'.Perm ns → ns'.Pairwise (· ≤ ·) → H p = none → Same H H' → H' p = some (.lst (ns'.map V.int)) → Q (.ref p) H') : rSortedI K [.ref a] H Q := k_sortedI hs fun ns' p h1 h2 h3 => h ns' p _ h1 h2 h3 (same_new h3) upd_same
end
/-! ### facts of older heaps -/
theorem hid_back {S : List Addr} {X Y : Hp} (h : Same X (hid S Y)) : Same X Y := h.trans (hid_same S Y)
theorem at_same {X Y : Hp} {p : Addr} {o : HO} (h : X p = some o) (s : Same X Y) : Y p = some o := s _ _ h
theorem sl_at {K : PySem.W.Frag} {X Y : Hp} {p : Addr} {xs : List V} (h : X p = some (.lst xs)) (s : Same X Y) : SqL K Y p xs := sl (s _ _ h)
theorem st_at {K : PySem.W.Frag} {X Y : Hp} {p : Addr} {xs : List V} (h : X p = some (.tup xs)) (s : Same X Y) : SqT K Y p xs := stp (s _ _ h)
theorem dpI_at {K : PySem.W.Frag} {X Y : Hp} {p : Addr} {ns : List Int} (h : X p = some (.lst (ns.map V.int))) (s : Same X Y) : Dp K Y (.ref p) (dInts ns) := dp_of_ints (sl (s _ _ h))
theorem dpP_at {K : PySem.W.Frag} {X Y : Hp} {p : Addr} {a b : Int} (h : X p = some (.tup [.int a, .int b])) (s : Same X Y) : Dp K Y (.ref p) (dPair (a, b)) := dp_of_pair (stp (s _ _ h))
theorem hid_free {S : List Addr} {H : Hp} (f : ∀ a ∈ S, H a = none) : Same H (hid S H) := fun b o hb => by
  rw [hid_ne fun z => by rw [f b z] at hb; cases hb]; exact hb
theorem hid_free1 {p : Addr} {H : Hp} (f : H p = none) : Same H (hid [p] H) := hid_free (free1 f)
theorem cut_to (xs : List V) (k : Nat) : cutV xs none (some (k : Int)) = xs.take k := by
  unfold cutV
  rw [HT.sIx_none, HT.sIx_nat, List.drop_zero, Nat.sub_zero]
  by_cases h : k ≤ xs.length
  · rw [Nat.min_eq_left h]
  · rw [Nat.min_eq_right (by omega), List.take_of_length_le (by simp), List.take_of_length_le (by omega)]
theorem cut_from (xs : List V) (k : Nat) : cutV xs (some (k : Int)) none = xs.drop k := by
  unfold cutV
  rw [HT.sIx_none, HT.sIx_nat]
  by_cases h : k ≤ xs.length
  · rw [Nat.min_eq_left h]
    exact List.take_of_length_le (by simp)
  · rw [Nat.min_eq_right (by omega), List.drop_of_length_le (Nat.le_refl _), List.drop_of_length_le (by omega), List.take_nil]
theorem dpa_take {K : PySem.W.Frag} {H : Hp} : ∀ {vs : List V} {ds : List PyData} (n : Nat), DpAll K H vs ds → DpAll K H (vs.take n) (ds.take n)
  | _, _, 0, _ => by simp only [List.take_zero]; exact .nil
  | _, _, n + 1, .nil => by simp only [List.take_nil]; exact .nil
  | _, _, n + 1, .cons h r => .cons h (dpa_take n r)
theorem dpa_drop {K : PySem.W.Frag} {H : Hp} : ∀ {vs : List V} {ds : List PyData} (n : Nat), DpAll K H vs ds → DpAll K H (vs.drop n) (ds.drop n)
  | _, _, 0, h => h
  | _, _, n + 1, .nil => by simp only [List.drop_nil]; exact .nil
  | _, _, n + 1, .cons _ r => dpa_drop n r
theorem Le.at {H H' : Hp} {pu p : Addr} {k : Int} {o : HO} (L : Le H pu k) (np : H p = none) (e : H' p = some o) : hid [pu] H' p = some o := by rw [hid_ne (L.fresh np)]; exact e
theorem hat {H : Hp} {pu p : Addr} {o : HO} (np : p ∉ [pu]) (e : H p = some o) : hid [pu] H p = some o := by rw [hid_ne np]; exact e
theorem kLp {xs : List V} {H : Hp} {Q : VK} {pu : Addr} {k : Int} (L : Le H pu k) (hn : xs.length ≤ 100000) (h : ∀ p H', H p = none → Same H H' → hid [pu] H' p = some (.lst xs) → Q (.ref p) H') : newL xs H Q := ⟨sz hn, fun p np => h p _ np (same_new np) (L.at np upd_same)⟩
theorem kTp {xs : List V} {H : Hp} {Q : VK} {pu : Addr} {k : Int} (L : Le H pu k) (hn : xs.length ≤ 100000) (h : ∀ p H', H p = none → Same H H' → hid [pu] H' p = some (.tup xs) → Q (.ref p) H') : newT xs H Q := ⟨sz hn, fun p np => h p _ np (same_new np) (L.at np upd_same)⟩
theorem sh_l2 {n : Nat} {c d : PyData} (h1 : Sh n c) (h2 : Sh n d) : Sh (n + 1) (.list [c, d]) := sh_list fun x hx => by
  rcases List.mem_cons.mp hx with rfl | hx
  · exact h1
  · rcases List.mem_cons.mp hx with rfl | hx
    · exact h2
    · cases hx
section
variable {K : PySem.W.Frag} {σ : L2.St} {H1 : Hp} {Q : VK} {g : TG} {tt : TT} {te : TE} {vs : List Nat}
/-- over a range, new objects may be made -/
theorem lc_growR {QD : Addr → Hp → Prop} {lo : Int} {n : Nat} (hz : n ≤ 50000) (f : Nat → Option V)
    (step : ∀ (i : Nat) H', i < n → Same H1 H' → ∀ (R : V → Hp → Prop) (R0 : Hp → Prop), (∀ y H'', f i = some y → Same H' H'' → R y H'') → (∀ H'', f i = none → Same H' H'' → R0 H'') →
      g (.int (lo + (i : Nat))) (wipe σ vs) H' fun σ2 H2 => wipe σ2 vs = wipe σ vs ∧ tt σ2 H2 fun b H3 => if b = true then te σ2 H3 R else R0 H3)
    (h : ∀ D H', H1 D = none → Same H1 H' → H' D = some (.lst ((List.range n).filterMap f)) → QD D H') :
    ∀ D, H1 D = none → ∃ W : Nat → Nat → Hp → Prop, (∃ m, W 0 m (upd H1 D (.lst []))) ∧ ∀ i m H, W i m H →
      ((Itr lo n).stop i H ∧ QD D H) ∨ ((Itr lo n).go i H ∧ ∃ Nx : Hp → Prop, (∀ H', Nx H' → ∃ m', m' < m ∧ W (i + 1) m' H') ∧ ∀ x H', (Itr lo n).yld i H x H' → g x (wipe σ vs) H' fun σ2 H2 => wipe σ2 vs = wipe σ vs ∧ tt σ2 H2 fun b H3 =>
        if b = true then te σ2 H3 fun y H4 => ∃ acc, H4 D = some (.lst acc) ∧ acc.length < sizeLine ∧ Nx (upd H4 D (.lst (acc ++ [y]))) else Nx H3) := by
  refine fun D nD => lc_range (fun i H => Same H1 H ∧ H D = some (.lst (((List.range n).take i).filterMap f))) ⟨same_new nD, by rw [upd_same]; simp⟩ ?_ ?_
  · rintro i H hi ⟨sm, hD⟩
    have tk := take_filterMap (f := f) (range_take hi)
    refine step i H hi sm _ _ (fun y H'' hy s2 => ⟨_, s2 _ _ hD, szl ?_, same_mut (sm.trans s2) nD, ?_⟩) (fun H'' hn s2 => ⟨sm.trans s2, ?_⟩)
    · have := List.length_filterMap_le f ((List.range n).take i)
      rw [List.length_take, List.length_range] at this
      omega
    · rw [upd_same, tk, hy]; rfl
    · rw [tk, hn, s2 _ _ hD]; simp
  · rintro H ⟨sm, hD⟩
    rw [List.take_of_length_le (by simp)] at hD
    exact h D H nD sm hD
end
/-- behind an if: what follows is shown once -/
theorem ifjoin {c : Bool} {σ : L2.St} {H : Hp} {s1 s2 : TS} {nx bk ct : L2.St → Hp → Prop} {rt : VK} (G : L2.St → Hp → Prop) (main : ∀ σ H, G σ H → nx σ H) (h : (∀ σ H, G σ H → nx σ H) → if c = true then s1 ⟨nx, rt, bk, ct⟩ σ H else s2 ⟨nx, rt, bk, ct⟩ σ H) : if c = true then s1 ⟨nx, rt, bk, ct⟩ σ H else s2 ⟨nx, rt, bk, ct⟩ σ H := h main
theorem k_repN {H : Hp} {Q : VK} {p : Addr} {xs : List V} {k : Int} (hp : H p = some (.lst xs)) (h0 : 0 ≤ k) (h1 : k < 100000) (h2 : xs.length * k.toNat ≤ 100000) (h : ∀ l H', H l = none → Same H H' → H' l = some (.lst (List.replicate k.toNat xs).flatten) → Q (.ref l) H') : rRep (.ref p) (.int k) H Q := k_rep hp h0 h1 h2 fun l nl => h l _ nl (same_new nl) upd_same
theorem ixN_last {n : Nat} (h : 0 < n) : ixN n (-1) = some (n - 1) := by
  unfold ixN
  rw [if_neg (by omega)]
  split
  · simp; omega
  · omega
theorem ifsjoin {t : TT} {σ : L2.St} {H : Hp} {s1 s2 : TS} {nx bk ct : L2.St → Hp → Prop} {rt : VK} (G : L2.St → Hp → Prop) (main : ∀ σ H, G σ H → nx σ H) (h : (∀ σ H, G σ H → nx σ H) → tIfS t s1 s2 ⟨nx, rt, bk, ct⟩ σ H) : tIfS t s1 s2 ⟨nx, rt, bk, ct⟩ σ H := h main
/-- over a list or a tuple -/
def iAny (w1 w2 : TI) : TI := fun σ H R => w1 σ H R ∨ w2 σ H R
theorem pi_any {X : Cx} {tg it : Expr} {w1 w2 : TI} (h1 : PI X tg it w1) (h2 : PI X tg it w2) : PI X tg it (iAny w1 w2) := ⟨fun pins s σ H R I h => by
  rcases h with h | h
  · exact h1.run pins s σ H R I h
  · exact h2.run pins s σ H R I h⟩
theorem k_inT2 {K : PySem.W.Frag} {H : Hp} {Q : VK} {p : Addr} {x a b : Int} (hs : SqT K H p [.int a, .int b]) (h : Q (.bl (decide (x = a ∨ x = b))) H) : rIn K false (.int x) (.ref p) H Q :=
  ⟨p, _, rfl, .inr hs, rfl, flat_ints [a, b], by
    rw [if_neg Bool.false_ne_true, show ([V.int a, .int b] : List V) = List.map V.int [a, b] from rfl, inV_ints]
    have e : decide (x ∈ [a, b]) = decide (x = a ∨ x = b) := by simp
    rw [e]; exact h⟩
theorem Pu.at {H H' : Hp} {pu ce p : Addr} {n : Nat} {t : Int} {o : HO} (L : Pu H pu ce n t) (np : H p = none) (e : H' p = some o) : hid [pu, ce] H' p = some o := by rw [hid_ne (L.fresh np)]; exact e
theorem kLq {xs : List V} {H : Hp} {Q : VK} {pu ce : Addr} {n : Nat} {t : Int} (L : Pu H pu ce n t) (hn : xs.length ≤ 100000) (h : ∀ p H', H p = none → Same H H' → hid [pu, ce] H' p = some (.lst xs) → Q (.ref p) H') : newL xs H Q := ⟨sz hn, fun p np => h p _ np (same_new np) (L.at np upd_same)⟩
theorem kTq {xs : List V} {H : Hp} {Q : VK} {pu ce : Addr} {n : Nat} {t : Int} (L : Pu H pu ce n t) (hn : xs.length ≤ 100000) (h : ∀ p H', H p = none → Same H H' → hid [pu, ce] H' p = some (.tup xs) → Q (.ref p) H') : newT xs H Q := ⟨sz hn, fun p np => h p _ np (same_new np) (L.at np upd_same)⟩
end Cm

namespace Cm
open PySem PySem.Spec PyProof.Rows L2

/-! ### a caught exception that is kept as a value -/
def ExV (cls : Value) (d : Option Addr) (a : Addr) : HO := .ext fun h => ∃ (oe : Obj) (vs : Array Value), h.get? a = some oe ∧ Zc cls d oe ∧ oe.data = .fields vs
theorem exV_ok {P : Program} {w : World} {H : Hp} {h : Heap} {a : Addr} {cls : Value} {d : Option Addr} {oe : Obj} {vs : Array Value} (he : h.get? a = some oe) (hz : Zc cls d oe) (hd : oe.data = .fields vs) : ObjOk P w H h a (ExV cls d a) :=
  ⟨⟨oe, vs, he, hz, hd⟩, ⟨oe, he⟩, fun h1 h2 ⟨o1, v1, g1, g2, g3⟩ k => ⟨o1, v1, k _ g1, g2, g3⟩⟩
theorem exV_at {P : Program} {w : World} {H : Hp} {h : Heap} {a : Addr} {cls : Value} {d : Option Addr} (hok : HOk P w H h) (e : H a = some (ExV cls d a)) : ∃ (oe : Obj) (vs : Array Value), h.get? a = some oe ∧ Zc cls d oe ∧ oe.data = .fields vs :=
  (hok a _ e).1
section
variable {X : Cx} {pins : List (Addr × Obj)} {σ : L2.St} {H : Hp} {s : Shared}
/-- an object of this def's own time is taken into sight -/
theorem track {a : Addr} {cls : Value} {d : Option Addr} {oe : Obj} {vs : Array Value} (I : Inv X pins σ H s) (he : s.heap.get? a = some oe) (hz : Zc cls d oe) (hd : oe.data = .fields vs) (na : H a = none) (n0 : X.s_0.heap.get? a = none)
    (nL : a ≠ X.env.locals) (np : ∀ p ∈ X.pn ++ pins, p.1 ≠ a) : Inv X pins σ (upd H a (ExV cls d a)) s := by
  have ne : ∀ {b : Addr} {o : HO}, H b = some o → b ≠ a := fun q => ne_of_none q na
  have nb : ∀ b o, X.s_0.heap.get? b = some o → b ≠ a := fun b o q z => by rw [z, n0] at q; cases q
  refine { I with base := ?_, free := ?_, freeC := ?_, pin := ?_, hok := ?_ }
  · have B := I.base
    refine ⟨B.keep, B.slot, fun b o q n x => ?_, B.there, fun b xs q => ?_, fun b o u q => ?_, fun b ps q => ?_⟩
    · rw [upd_ne (nb b o q)]; exact B.free b o q n x
    · have z := B.tups b xs q; rw [upd_ne (ne z)]; exact z
    · have z := B.frzs b o u q; rw [upd_ne (ne z)]; exact z
    · obtain ⟨m, z⟩ := B.tbls b ps q; exact ⟨m, by rw [upd_ne (ne z)]; exact z⟩
  · rw [upd_ne nL.symm]; exact I.free
  · intro x c q
    have nc : c ≠ a := fun z => by
      obtain ⟨v, oc, g1, g2⟩ := I.cell x c q
      rw [z, he] at g1
      cases g1
      rw [hd] at g2
      cases g2
    rw [upd_ne nc]; exact I.freeC x c q
  · intro p hp
    obtain ⟨g1, g2, g3⟩ := I.pin p hp
    exact ⟨g1, by rw [upd_ne (np p hp)]; exact g2, g3⟩
  · intro b u q
    by_cases hb : b = a
    · rw [hb] at q ⊢
      rw [upd_same] at q
      cases q
      exact exV_ok he hz hd
    · rw [upd_ne hb] at q
      exact (I.hok b u q).stay (fun _ _ _ z => z) (fun c z => by rw [upd_ne (ne z)]; exact z) fun c xs z => by rw [upd_ne (ne z)]; exact z
end
/-- what «except x as n: suite» wishes, the exception kept behind it -/
def wKept (K : PySem.W.Frag) (c : Value) (i : Nat) (ts : Addr → Value → Option Addr → TS) (Wout : WX) (D : Ends) : WX := fun cls d σ H =>
  ∃ b, PySem.W.exmOne K cls c = some b ∧
    (b = true → ∀ a, H a = none → ts a cls d ⟨fun σ' H' => D.nx (σ'.set i none) (upd H' a (ExV cls d a)), fun _ _ => False, fun _ _ => False, fun _ _ => False⟩ (σ.set i (some (.ref a))) H) ∧ (b = false → Wout cls d σ H)
section
variable {X : Cx} {x n : Str} {c : Value} {i : Nat} {body suite : List Stmt} {b0 : Stmt} {np pos pos' : Pos} {tb : WX → TS} {ts : Addr → Value → Option Addr → TS} {Wout : WX}
theorem ps_try_kept (hst : X.stack = X.env :: X.outer) (hfm : X.env.frame = some X.env.locals) (hex : X.ex = []) (hN : X.N.Nodup) (hi : X.N[i]? = some n) (hln : X.env.kindOf n = some .local) (hc : Names X x c) (tk : Takes X Wout)
    (hb : ∀ (W : WX) (pn : List (Addr × Obj)) (xe : Value → Shared → Prop), Takes (X.tr pn xe) W → PassesOwn (model X.prog X.w) X.A X.env xe → PSs (X.tr pn xe) body (tb W))
    (hsu : ∀ (a : Addr) (oe : Obj) (cls : Value) (d : Option Addr) (pn : List (Addr × Obj)), Zc cls d oe → (∃ vs, oe.data = .fields vs) → PSs (X.suite a ((a, oe) :: pn)) (b0 :: suite) (ts a cls d)) :
    PS X (.Try body [.ExceptHandler (some (.Name x np)) (some n) (b0 :: suite) pos'] [] [] pos) (fun D σ H => tb (wKept X.K c i ts Wout D) D σ H) := by
  constructor
  intro pins s σ H D I h
  have ok := I.ok
  have frm : X.A.frames = some (X.env :: X.outer) := by rw [← hst]; exact ok.frames
  refine wpAny_Try_except (wpAny_mono ((hb (wKept X.K c i ts Wout D) (X.pn ++ pins) _ (fun u s1 air => ?caught) PassesOwn.looking).run [] s σ H D (I.toTry _) h) (fun f s1 q => ?through) (fun e s1 q => q))
  case through =>
    cases f with
    | next => obtain ⟨σ1, H1, J, q⟩ := q; exact wpAny_execs_nil ⟨σ1, H1, J.ofTry ok, q⟩
    | brk => obtain ⟨σ1, H1, J, q⟩ := q; exact ⟨σ1, H1, J.ofTry ok, q⟩
    | cont => obtain ⟨σ1, H1, J, q⟩ := q; exact ⟨σ1, H1, J.ofTry ok, q⟩
    | ret u => obtain ⟨v, σ1, H1, J, r, q⟩ := q; exact ⟨v, σ1, H1, J.ofTry ok, r, q⟩
  case caught =>
    obtain ⟨a, B, sI, pins1, σ1, H1, cls, d, rfl, J0, ground, up, sky, na, os, bare, b, hcls, yes, no⟩ := air
    have J : Inv X pins σ1 H1 sI := J0.ofTry ok
    rw [show (X.tr (X.pn ++ pins) _).stack = X.stack from rfl, hst] at sky
    have Ba : B.get? a = none := by
      rcases sky with z | z | z
      · exact z.2.1
      · exact z.2.1
      · exact z.2.1
    show wpAny (model X.prog X.w) X.A (noteFrame (.ref a) X.env) _ _ _
    refine Sky.land Zc.steady frm hfm sky fun h2 fly up2 => ?_
    obtain ⟨o2, v2, g2, z2, d2⟩ := fly.there
    have J2 : Inv X pins σ1 H1 { s1 with heap := h2 } := J.landed ground fly.1 (up.trans up2) os bare
    have out : a ∉ frs (X.env :: X.outer) := fun hm => by
      obtain ⟨_, o', e', hnf⟩ := fly.2.2.1.mem hm
      rw [g2] at e'
      cases e'
      exact hnf _ d2
    have nL : a ≠ X.env.locals := fun z => out (List.mem_filterMap.mpr ⟨X.env, List.mem_cons_self, by rw [hfm, z]⟩)
    have nF : a ∉ X.fs := fun hm => by
      obtain ⟨e, he, q⟩ := List.mem_filterMap.mp hm
      exact out (List.mem_filterMap.mpr ⟨e, List.mem_cons_of_mem _ he, q⟩)
    have sIa : sI.heap.get? a = none := by
      cases q : sI.heap.get? a with
      | none => rfl
      | some o =>
        have := ground a o q (by rw [show (X.tr (X.pn ++ pins) _).stack = X.stack from rfl, hst]; exact out)
        rw [Ba] at this; cases this
    have n0 : X.s_0.heap.get? a = none := by
      cases q : X.s_0.heap.get? a with
      | none => rfl
      | some o =>
        obtain ⟨o', q'⟩ := J.base.there a o q (by rw [hex]; simp)
        rw [sIa] at q'; cases q'
    have pinNe : ∀ p ∈ X.pn ++ pins, p.1 ≠ a := fun p hp z => by
      have := (J.pin p hp).1
      rw [z, sIa] at this; cases this
    refine wpAny_handleBy_cons (codeAny_handlers_test ?_) (fun q => by cases q)
    have T2 := J2.suite g2 d2 na nL nF
    have ty : PySem.W.Looks (model X.prog X.w) h2 (typeOf (.ref a)) cls := fun _ _ _ _ k q => wpAny_typeOf_ref (k _ _ g2) (by rw [z2.1]; exact q)
    have named : ∀ {Q : Value → Shared → Prop} {E : Value → Shared → Prop}, Q c { s1 with heap := h2 } → wpAny (model X.prog X.w) (X.A.mark (some (.ref a))) (eval (.Name x np) X.env) Q E { s1 with heap := h2 } := fun {Q E} q => by
      obtain ⟨gl, db, hm | ⟨hm, hv, hn⟩⟩ := hc
      · exact ld_glob (X := X.suite a ((a, o2) :: (X.pn ++ pins))) T2 gl hm q db
      · exact ld_blt (X := X.suite a ((a, o2) :: (X.pn ++ pins))) T2 gl hm hv q hn db
    refine named ((PySem.W.exm_one (M := model X.prog X.w) J2.kIn ty hcls).here ?_)
    cases b with
    | false =>
      show wpAny _ X.A (handleBy (.ref a) X.env []) _ _ _
      refine wpAny_handleBy_nil ?_
      obtain ⟨_, _, _, oe, vs, T, oT, ts', he, hz, hd, h1, hr⟩ := id fly
      unfold PySem.passOn
      refine wpAny_bind (wpAny_field he hd h1 ?_)
      rw [if_neg (show ¬ ((Value.ref T == Value.none) = true) by simp)]
      have on : wpAny (model X.prog X.w) X.A (setFlight (.ref a) X.env.frame) (fun _ s4 => wpAny (model X.prog X.w) X.A (throw (.ref a) : Sem Flow) (SP X pins D) X.xe s4) X.xe { s1 with heap := h2 } := by
        rw [hfm]
        refine HandSPX.setFlight_upZ fly fun h4 hh4 up4 => wpAny_throw (tk _ _ ⟨a, B, sI, pins, σ1, H1, cls, d, rfl, J, ground, (up.trans up2).trans up4, .inr (.inr (by rw [hst]; exact hh4)), na, os, bare, no rfl⟩)
      first
        | exact wpAny_bind (wpAny_pure (wpAny_bind on))
        | exact wpAny_bind on
    | true =>
      refine codeAny_handlers_suite_as (HandSPX.lands_againZ fly fun h3 fly3 up3 => ?_)
      obtain ⟨o3, v3, g3, z3, d3⟩ := fly3.there
      have J3 : Inv X pins σ1 H1 { s1 with heap := h3 } := J.landed ground fly3.1 ((up.trans up2).trans up3) os bare
      refine store_ok (X := X.suite a ((a, o3) :: (X.pn ++ pins))) (v := .ref a) (J3.suite g3 d3 na nL nF) hN hi (.inl hln) rfl (fun s4 S4 => ?_) (.inr hln)
      refine wpAny_mono ((hsu a o3 cls d (X.pn ++ pins) z3 ⟨_, d3⟩).run [] s4 _ H1 _ S4 (yes rfl a na)) (fun f s5 q => ?_) (fun _ _ z => z.elim)
      cases f with
      | brk => obtain ⟨_, _, _, q⟩ := q; exact q.elim
      | cont => obtain ⟨_, _, _, q⟩ := q; exact q.elim
      | ret u => obtain ⟨_, _, _, _, _, q⟩ := q; exact q.elim
      | next =>
        obtain ⟨σ5, H5, S5, q5⟩ := q
        have K5 : Inv X ((a, o3) :: pins) σ5 H5 s5 := ⟨ok, S5.os, S5.bare, S5.base, S5.loc, S5.cell, S5.free, S5.freeC, fun p hp => S5.pin p (by
          rw [List.append_nil]
          rcases List.mem_append.mp hp with hp | hp
          · exact List.mem_cons_of_mem _ (List.mem_append_left _ hp)
          · rcases List.mem_cons.mp hp with hp | hp
            · rw [hp]; exact List.mem_cons_self
            · exact List.mem_cons_of_mem _ (List.mem_append_right _ hp)), S5.hok, S5.len⟩
        refine gone_ok K5 hN hi hln fun s6 K6 => ?_
        obtain ⟨g6, na6, _⟩ := K6.pin (a, o3) (List.mem_append_right _ List.mem_cons_self)
        have K7 : Inv X pins (σ5.set i none) H5 s6 := { K6 with pin := fun p hp => K6.pin p (by
          rcases List.mem_append.mp hp with hp | hp
          · exact List.mem_append_left _ hp
          · exact List.mem_append_right _ (List.mem_cons_of_mem _ hp)) }
        exact ⟨_, _, track K7 g6 z3 d3 na6 n0 nL pinNe, q5⟩
end

/-! ### isinstance of a kept exception, of None and of the other values -/
/-- what an exception class of the program must say, so that its instances are asked rightly -/
structure ExK (K : PySem.W.Frag) (D : Addr) : Prop where
  hg : PySem.W.findIn K (.ref D) "__getattribute__" = some (some (.builtin "BaseException.__getattribute__"))
  hk : PySem.W.findIn K (.ref D) "__getattr__" = some none
  hs : PySem.W.subIn K (.ref D) (.type "BaseException") = some true
  hd : PySem.W.hasDictIn K D = true
  ha : PySem.W.findIn K (.ref D) "__class__" = some (some (.builtin "object.__class__"))
  hn : PySem.W.specialIn K (.builtin "object.__class__") "__get__" = some (some (.builtin "getset_descriptor.__get__"))
  ht : PySem.W.takesIn K (.builtin "object.__class__") = some true
  hm : PySem.W.mroIn K D (.type "object") = some true
def exkB (K : PySem.W.Frag) (D : Addr) : Bool :=
  (PySem.W.findIn K (.ref D) "__getattribute__" == some (some (.builtin "BaseException.__getattribute__"))) && ((PySem.W.findIn K (.ref D) "__getattr__" == some none) && ((PySem.W.subIn K (.ref D) (.type "BaseException") == some true) && (PySem.W.hasDictIn K D &&
  ((PySem.W.findIn K (.ref D) "__class__" == some (some (.builtin "object.__class__"))) && ((PySem.W.specialIn K (.builtin "object.__class__") "__get__" == some (some (.builtin "getset_descriptor.__get__"))) && ((PySem.W.takesIn K (.builtin "object.__class__") == some true) && (PySem.W.mroIn K D (.type "object") == some true)))))))
theorem exkB_ok {K : PySem.W.Frag} {D : Addr} (h : exkB K D = true) : ExK K D := by
  unfold exkB at h
  simp only [Bool.and_eq_true, beq_iff_eq] at h
  obtain ⟨h1, h2, h3, h4, h5, h6, h7, h8⟩ := h
  exact ⟨h1, h2, h3, h4, h5, h6, h7, h8⟩
theorem ExK.xf {K : PySem.W.Frag} {D : Addr} (h : ExK K D) : XfC K D := ⟨h.hg, h.hk, h.hs, h.hd⟩
/-- what is known of a kept exception at a: its class D, its dict's state -/
def KeptAt (H : Hp) (a D : Addr) : Prop := ∃ d : Option Addr, H a = some (ExV (.ref D) d a) ∧ (d = none ∨ ∃ dd fs, d = some dd ∧ H dd = some (.xd fs))
def rIsX (K : PySem.W.Frag) : List V → Hp → VK → Prop := fun xs H Q => ∃ (a D : Addr) (c : V) (cv : Value) (b : Bool), xs = [.ref a, c] ∧ KeptAt H a D ∧ ExK K D ∧ ClsV c cv ∧ PySem.W.kitOne K (.ref D) cv = some b ∧ Q (.bl b) H
def rIsXT (K : PySem.W.Frag) : List V → Hp → VK → Prop := fun xs H Q => ∃ (a D tp : Addr) (cs : List V) (us : List Value) (b : Bool), xs = [.ref a, .ref tp] ∧ KeptAt H a D ∧ ExK K D ∧ H tp = some (.tup cs) ∧ Paired ClsV cs us ∧ PySem.W.kitAny K (.ref D) us = some b ∧ Q (.bl b) H
section
variable {X : Cx} {pins : List (Addr × Obj)} {σ : L2.St} {H : Hp} {s : Shared}
theorem kept_inst {a D : Addr} (I : Inv X pins σ H s) (k : KeptAt H a D) : ∃ ox od, PySem.W.InstAt s.heap a ox D od := by
  obtain ⟨d, e, dd⟩ := k
  obtain ⟨oe, vs, g, z, hd⟩ := exV_at I.hok e
  obtain ⟨oc, od, oda, osl⟩ := oe
  obtain ⟨h1, h2⟩ := z
  dsimp only at h1 h2 hd
  subst h1 h2 hd
  rcases dd with rfl | ⟨dx, fs, rfl, hx⟩
  · exact ⟨_, none, g, rfl, rfl, trivial⟩
  · obtain ⟨mA, ⟨o, es, ep, g2, _⟩, _⟩ := (show ObjOk X.prog X.w H s.heap dx (.xd fs) from I.hok dx _ hx)
    exact ⟨_, some o, g, rfl, rfl, g2⟩
theorem kit_exc {K : PySem.W.Frag} {a D : Addr} {ox : Obj} {od : Option Obj} (C : ExK K D) : PySem.W.KitX K (.ref a) (.ref D) (fun h => PySem.W.InstAt h a ox D od) := by
  have hcl : (PySem.W.clsIn K D).isSome = true := by
    obtain ⟨cd, hc, _⟩ := PySem.W.any_some C.hd
    rw [hc]; rfl
  exact PySem.W.kitx_exc hcl C.hg C.hk C.hs C.ha C.hn C.ht C.hm
theorem call_isX : CallR X (.builtin "isinstance") (rIsX X.K) := by
  intro pins s σ H xs us Q I r h
  obtain ⟨a, D, c, cv, b, rfl, k, C, kc, e, q⟩ := h
  obtain ⟨u1, u2, rfl, r1, r2⟩ := vals2 r
  have e2 := kc.eq r2
  subst e2
  cases (show u1 = Value.ref a from r1)
  obtain ⟨ox, od, J⟩ := kept_inst I k
  exact PySem.W.kia_one (kit_exc C) I.kIn J e (fun z => nomatch z) fun tk => ⟨.bl b, H, I.tok tk, rfl, q⟩
theorem call_isXT : CallR X (.builtin "isinstance") (rIsXT X.K) := by
  intro pins s σ H xs us Q I r h
  obtain ⟨a, D, tp, cs, ws, b, rfl, k, C, hT, kc, e, q⟩ := h
  obtain ⟨u1, u2, rfl, r1, r2⟩ := vals2 r
  cases (show u1 = Value.ref a from r1)
  cases (show u2 = Value.ref tp from r2)
  obtain ⟨ox, od, J⟩ := kept_inst I k
  obtain ⟨_, its, rv, o, h1, h2, n, h3⟩ := (show ObjOk X.prog X.w H s.heap tp (.tup cs) from I.hok tp _ hT)
  have e3 := ClsV.all kc rv
  subst e3
  obtain ⟨oc, od', dt, sl⟩ := o
  simp only at h2 h3
  subst h2 h3
  exact PySem.W.kia_tup (kit_exc C) I.kIn J h1 e (fun z => nomatch z) fun tk => ⟨.bl b, H, I.tok tk, rfl, q⟩
/-- isinstance of anything, one class or a tuple of them -/
def rIsA (K : PySem.W.Frag) : List V → Hp → VK → Prop := fun xs H Q => rIsi K xs H Q ∨ rIsiT K xs H Q ∨ rIsX K xs H Q ∨ rIsXT K xs H Q
theorem q_isA : CallR X (.builtin "isinstance") (rIsA X.K) := by
  intro pins s σ H xs us Q I r h
  rcases h with h | h | h | h
  · exact call_isi pins s σ H xs us Q I r h
  · exact call_isiT pins s σ H xs us Q I r h
  · exact call_isX pins s σ H xs us Q I r h
  · exact call_isXT pins s σ H xs us Q I r h
end

/-! ### a kept exception's field -/
def tXat (K : PySem.W.Frag) (n : Str) (te : TE) : TE := fun σ H Q => te σ H fun x H1 => ∃ (a C dd : Addr) (fs : List (Str × V)) (v : V), x = .ref a ∧ H1 a = some (ExV (.ref C) (some dd) a) ∧ XfC K C ∧ PySem.W.findIn K (.ref C) n = some none ∧ H1 dd = some (.xd fs) ∧ fs.lookup n = some v ∧ Q v H1
theorem pe_xat {X : Cx} {e : Expr} {te : TE} {pos : Pos} {n : Str} (he : PE X e te) (hb : attributeBase e n X.env (eval e X.env) = eval e X.env := by rfl) : PE X (.Attribute e n pos) (tXat X.K n te) := by
  constructor
  intro pins s σ H Q I h
  refine attr_of hb (thn (he.run pins s σ H _ I h) fun u s1 hh => ?_)
  obtain ⟨x, H1, I1, rx, a, C, dd, fs, v, rfl, ea, T, hno, ed, l, q⟩ := hh
  cases (show u = Value.ref a from rx)
  obtain ⟨oe, vs, g, z, hd⟩ := exV_at I1.hok ea
  obtain ⟨mA, hns, hr⟩ := (show ObjOk X.prog X.w H1 s1.heap dd (.xd fs) from I1.hok dd _ ed)
  obtain ⟨od, ho, hl⟩ := lookIn_ns hns
  obtain ⟨u, hu, ru⟩ := RelO.some_of (v := v) (o := mA n) (by rw [← l]; exact hr n)
  have J : PySem.W.InstAt s1.heap a oe C (some od) := ⟨g, z.1, by unfold PySem.W.notCls; rw [hd] <;> rfl, by rw [z.2]; exact ho⟩
  exact HandSPX.exc_get I1.kIn J T.ga T.gg T.exC (PySem.W.findObj_own T.hdC hno rfl (by rw [hl, hu])) (handed_of ru) ⟨v, H1, I1.tok _, ru, q⟩

/-! ### Base.__init__(self, ..) in an own exception's __init__, Base an own class without an __init__ -/
structure BaseI (K : PySem.W.Frag) (mg : Str → Option Value) (B : Addr) (x : Str) : Prop where
  gB : mg x = some (.ref B)
  rd : PySem.W.readsIn K B (.type "type") = true
  ga : PySem.W.specialIn K (.ref B) "__getattribute__" = some (some (.builtin "type.__getattribute__"))
  at_ : PySem.W.findCls K (.ref B) (.type "type") "__init__" = some (.val (.builtin "ValueError.__init__"))
theorem pe_binit {X : Cx} {x : Str} {B : Addr} {e : Expr} {es : List Expr} {ta : TA} {p1 p2 pos : Pos} {pl : Sem Bool} (T : BaseI X.K X.mg B x) (hg : Gl X x) (ha : PA X (e :: es) ta) (hdb : (x == ("__debug__" : Str)) = false := by decide)
    (hc : eval (.Call (.Attribute (.Name x p1) "__init__" p2) (e :: es) [] pos) X.env = (do
      let ov ← eval (.Name x p1) X.env
      standAt p2.atName
      let (f, first) ← holding [ov] (getMethod ov "__init__" pl)
      callWith pos f first (backTo pos (starEach (e :: es) X.env)) (backToKw pos (keywordEach [] X.env))) := by rfl)
    (he : starEach (e :: es) X.env = (false, eval e X.env) :: starEach es X.env := by rfl) (hpl : (backTo pos (starEach es X.env)).any (·.1) = false := by rfl) :
    PE X (.Call (.Attribute (.Name x p1) "__init__" p2) (e :: es) [] pos) (tVeI X.K ta) := by
  constructor
  intro pins s σ H Q I h
  refine PySem.W.methodCall_KW (ld_glob I hg T.gB ?_ hdb) hc
  refine PySem.W.method_cls I.kIn T.ga (PySem.W.cls_value I.kIn T.rd T.at_ (by decide +kernel) ?_)
  show wpAny _ _ (callWith pos (Value.builtin "ValueError.__init__") [] (backTo pos (starEach (e :: es) X.env)) []) _ _ _
  refine PyProof.Rows.callWith_method1 (thn (ha.run pos pins _ σ H _ (I.tok _) h) fun us s1 hh => ?_) he hpl
  obtain ⟨vs, H1, I1, r1, a, C, ws, rfl, hl, O, ea, q⟩ := hh
  cases r1 with
  | @cons _ u0 _ ur ra rr =>
    cases (show u0 = Value.ref a from ra)
    have len : ur.length ≤ sizeLine := by
      have := Paired.length rr
      rw [sizeLine_eq]
      omega
    exact oinit_ok O I1 ea len fun s' J => ⟨.non, H1, J, rfl, q⟩

/-! ### readings of raise, of an exception's own __init__ and of try, step by step -/
/-- raise C('..'), C without an __init__ -/
def tRaiseP (C : Addr) (E : XK) : TS := fun _ _ H => E (.ref C) none H
/-- raise C(e), C with an __init__ that keeps sp -/
def tRaiseO (C : Addr) (sp : Sp) (ta : TA) (E : XK) : TS := fun _ σ H => tMkO C sp [] ta σ H fun cls d H' => E cls d H'
/-- the promise of such an __init__(self, f): the field f is stored -/
def prInit (C : Addr) (f : Str) (v0 v1 : V) (H : Hp) (Q : VK) : Prop := ∃ a, v0 = .ref a ∧ H a = some (exo a C none) ∧ ∀ dx, H dx = none → dx ≠ a → Q .non (upd (upd H dx (exd dx [(f, v1)])) a (exo a C (some dx)))
def spInit (C : Addr) (f : Str) : Sp := fun vs H Q _ => ∃ v0 v1, vs = [v0, v1] ∧ prInit C f v0 v1 H Q
/-- try: .. except c as n: m = n (n in slot i, m in slot j) -/
def tTryK (K : PySem.W.Frag) (c : Value) (i j : Nat) (tb : WX → TS) : TS := fun D σ H => tb (wKept K c i (fun _ _ _ => tAsg (tVar i) (gName j)) (fun _ _ _ _ => False) D) D σ H
section
variable {K : PySem.W.Frag} {σ : L2.St} {H : Hp} {D : Ends} {E : XK} {C : Addr} {f : Str}
theorem k_raiseP (h : E (.ref C) none H) : tRaiseP C E D σ H := h
theorem heap_made {H : Hp} {a d : Addr} {o1 o2 o3 o4 : HO} (na : H a = none) (ne : d ≠ a) : upd (L2.del (upd (upd (upd H a o1) d o2) a o3) a) d o4 = upd H d o4 := by
  funext b
  by_cases h1 : b = d
  · rw [h1, upd_same, upd_same]
  · rw [upd_ne h1, upd_ne h1]
    by_cases h2 : b = a
    · rw [h2, L2.del_same, na]
    · rw [L2.del_ne h2, upd_ne h2, upd_ne h1, upd_ne h2]
theorem exo_ne_exd {a d C : Addr} {fs : List (Str × V)} : True := trivial
theorem k_raiseO {ta : TA} {v : V} (hta : ∀ (R : List V → Hp → Prop), R [v] H → ta σ H R) (h : ∀ d, H d = none → E (.ref C) (some d) (upd H d (.xd [(f, v)]))) : tRaiseO C (spInit C f) ta E D σ H := by
  refine hta _ ⟨(by show 1 ≤ 1000; decide), fun a na => ?_⟩
  refine ⟨.ref a, v, rfl, a, rfl, upd_same, fun dx ndx ne => ⟨rfl, dx, [(f, v)], upd_same, ?_, ?_, ?_⟩⟩
  · rw [upd_ne ne, upd_same]
  · rw [upd_ne ne] at ndx; exact ndx
  · rw [heap_made na ne]
    rw [upd_ne ne] at ndx
    exact h dx ndx
theorem k_try {i j : Nat} {tb : WX → TS} (h : tb (wKept K (.ref C) i (fun _ _ _ => tAsg (tVar i) (gName j)) (fun _ _ _ _ => False) D) D σ H) : tTryK K (.ref C) i j tb D σ H := h
theorem k_callS {sp : Sp} {W : WX} {tr : TA} {Q : VK} (h : tr σ H fun vs H1 => sp vs H1 Q (WE W σ)) : tCallS sp (WE W) tr σ H Q := h
/-- the exception is one of the clause's -/
theorem k_caught {c : Value} {i j : Nat} {cls : Value} {d : Option Addr} {nx : L2.St → Hp → Prop} {rt : VK} {bk ct : L2.St → Hp → Prop} (hi : i < σ.length) (hc : PySem.W.exmOne K cls c = some true)
    (h : ∀ a, H a = none → nx (((σ.set i (some (.ref a))).set j (some (.ref a))).set i none) (upd H a (ExV cls d a))) : wKept K c i (fun _ _ _ => tAsg (tVar i) (gName j)) (fun _ _ _ _ => False) ⟨nx, rt, bk, ct⟩ cls d σ H :=
  ⟨true, hc, fun _ a na => ⟨.ref a, by rw [List.getElem?_set_self hi], h a na⟩, fun z => Bool.noConfusion z⟩
theorem k_isXone {xs : List V} {Q : VK} {a D : Addr} {c : V} {cv : Value} {b : Bool} (k : KeptAt H a D) (e : ExK K D) (kc : ClsV c cv) (h1 : PySem.W.kitOne K (.ref D) cv = some b) (h : Q (.bl b) H) : rIsA K [.ref a, c] H Q := .inr (.inr (.inl ⟨a, D, c, cv, b, rfl, k, e, kc, h1, h⟩))
theorem k_isXtup {Q : VK} {a D tp : Addr} {cs : List V} {us : List Value} {b : Bool} (k : KeptAt H a D) (e : ExK K D) (hT : H tp = some (.tup cs)) (kc : Paired ClsV cs us) (h1 : PySem.W.kitAny K (.ref D) us = some b) (h : Q (.bl b) H) : rIsA K [.ref a, .ref tp] H Q := .inr (.inr (.inr ⟨a, D, tp, cs, us, b, rfl, k, e, hT, kc, h1, h⟩))
theorem k_isNone {Q : VK} {c : V} {cv : Value} {b : Bool} (kc : ClsV c cv) (h1 : PySem.W.kitOne K (.type "NoneType") cv = some b) (h : Q (.bl b) H) : rIsA K [.non, c] H Q := .inl ⟨_, _, _, _, b, rfl, kc, .base .non, h1, h⟩
theorem k_isOne {Q : VK} {xs : List V} (h : rIsi K xs H Q) : rIsA K xs H Q := .inl h
theorem k_xat {n : Str} {te : TE} {Q : VK} (h : te σ H fun x H1 => ∃ (a C dd : Addr) (fs : List (Str × V)) (v : V), x = .ref a ∧ H1 a = some (ExV (.ref C) (some dd) a) ∧ XfC K C ∧ PySem.W.findIn K (.ref C) n = some none ∧ H1 dd = some (.xd fs) ∧ fs.lookup n = some v ∧ Q v H1) : tXat K n te σ H Q := h
theorem exV_kept {a : Addr} {D : Addr} {d : Option Addr} {H : Hp} (h : H a = some (ExV (.ref D) d a)) (hd : d = none ∨ ∃ dd fs, d = some dd ∧ H dd = some (.xd fs)) : KeptAt H a D := ⟨d, h, hd⟩
end
section
variable {K : PySem.W.Frag} {σ : L2.St} {H : Hp} {D : Ends} {E : XK} {C : Addr} {f : Str} {Q : VK} {te : TE} {tr : TA}
instance {i j : Nat} {tb : WX → TS} : Stp (tTryK K (.ref C) i j tb D σ H) (tb (wKept K (.ref C) i (fun _ _ _ => tAsg (tVar i) (gName j)) (fun _ _ _ _ => False) D) D σ H) := ⟨k_try⟩
instance {sp : Sp} {W : WX} : Stp (tCallS sp (WE W) tr σ H Q) (tr σ H fun vs H1 => sp vs H1 Q (WE W σ)) := ⟨k_callS⟩
instance {n : Str} : Stp (tXat K n te σ H Q) (te σ H fun x H1 => ∃ (a C dd : Addr) (fs : List (Str × V)) (v : V), x = .ref a ∧ H1 a = some (ExV (.ref C) (some dd) a) ∧ XfC K C ∧ PySem.W.findIn K (.ref C) n = some none ∧ H1 dd = some (.xd fs) ∧ fs.lookup n = some v ∧ Q v H1) := ⟨k_xat⟩
instance : Stp (tRaiseP C E D σ H) (E (.ref C) none H) := ⟨k_raiseP⟩
/-- what follows a caught exception is shown once -/
theorem tryjoin {i j : Nat} {tb : WX → TS} (G : Value → Option Addr → L2.St → Hp → Prop) (rest : ∀ cls d σ' H', G cls d σ' H' → wKept K (.ref C) i (fun _ _ _ => tAsg (tVar i) (gName j)) (fun _ _ _ _ => False) D cls d σ' H')
    (h : (∀ cls d σ' H', G cls d σ' H' → wKept K (.ref C) i (fun _ _ _ => tAsg (tVar i) (gName j)) (fun _ _ _ _ => False) D cls d σ' H') → tTryK K (.ref C) i j tb D σ H) : tTryK K (.ref C) i j tb D σ H := h rest
end
section
variable {P : Program} {w : World} {K : PySem.W.Frag} {mg : Str → Option Value} {base : Heap}
/-- such an __init__ keeps its promise; msg, f: its texts -/
theorem init_reads {C B : Addr} {f : Str} {msg : V} {v0 v1 : V} {H : Hp} {Q : VK} (O : OexC K C) (hno : PySem.W.findIn K (.ref C) f = some none) (h : prInit C f v0 v1 H Q) :
    tSeq (tDrop (tVeI K (tCons (tVar 0) (tCons (tC msg) tNil)))) (tOst K f (tVar 0) (tVar 1)) { nx := fun _ H' => Q .non H', rt := Q } [some v0, some v1] H := by
  obtain ⟨a, rfl, ea, q⟩ := h
  refine ⟨_, rfl, a, C, [msg], rfl, (by show 1 ≤ 1000; decide), O, ea, ?_⟩
  exact ⟨_, rfl, _, rfl, a, C, rfl, O, hno, .inl ⟨ea, fun dx nd ne => q dx nd ne⟩⟩
end
end Cm

namespace Cm
open PySem PySem.Spec PyProof.Rows L2

/-! ### how many unlike ints -/
def unl (ns : List Int) : Nat := (PyProof.Rows.firstMet (fun i => ns.getD i 0) ns.length).length
theorem unl_le (ns : List Int) : unl ns ≤ ns.length := PyProof.Rows.firstMet_length_le _ _
def tLenU (K : PySem.W.Frag) (ta : TE) : TE := fun σ H Q => ta σ H fun x H1 => ∃ (l : Addr) (ns : List Int), x = .ref l ∧ SqL K H1 l (ns.map V.int) ∧ ns.length ≤ 4000 ∧ Q (.int (unl ns : Nat)) H1
theorem pe_lenU {X : Cx} {a : Expr} {ta : TE} {p p2 q pos : Pos} (cm : X.calm = true) (gl : Gl X "len") (ml : X.mg "len" = none) (gs : Gl X "set") (ms : X.mg "set" = none) (pa : PE X a ta)
    (se : starEach [a] X.env = (false, eval a X.env) :: starEach [] X.env := by rfl) : PE X (.Call (.Name "len" p) [.Call (.Name "set" p2) [a] [] q] [] pos) (tLenU X.K ta) := by
  constructor
  intro pins s σ H Q I h
  refine Call_ (ld_blt I gl ml boot_len (PyProof.Rows.callWith_builtin1 (PyProof.Rows.args_cons ?_ rfl) rfl rfl))
  refine Call_ (ld_blt I gs ms boot_set (PyProof.Rows.callWith_type1 (PyProof.Rows.args_cons (thn (pa.run pins s σ H _ I h) fun v s1 ⟨x, H1, J, rx, qx⟩ => PyProof.Rows.args_nil ?_) se) se rfl))
  obtain ⟨l, ns, rfl, hq, hl, qx⟩ := qx
  cases rx
  obtain ⟨its, rv, pl, hz⟩ := J.list hq
  have sz1 : its.toArray.size = ns.length := by rw [List.size_toArray, ← rv.length, List.length_map]
  refine call_set_list (J.ok.hd cm) pl.isList (by simpa using RZ.intsAre_vals rv) (by rw [sz1]; unfold scanBound; omega) fun h' tk hS hk => PyProof.Rows.args_nil ?_
  rw [sz1] at hS
  obtain ⟨o, es, ep, t, ho, hex, hd, _, _, _, hf, hn⟩ := hS
  have J2 : Inv X pins σ H1 { s1 with heap := h', toks := tk } := J.kept fun b o e => hk b o (Heap.lt_size e) e
  have hu := unl_le ns
  exact call_len_set ho hex hd hf (by rw [hn]; unfold unl at hu; omega) ⟨.int (unl ns : Nat), H1, J2.tok _, ⟨_, by rw [hn]; rfl⟩, qx⟩

section
variable {K : PySem.W.Frag} {σ : L2.St} {H1 : Hp} {g : TG} {tt : TT} {te : TE} {vs : List Nat}
/-- over a tuple, new objects may be made -/
theorem lc_growT {QD : Addr → Hp → Prop} {α : Type} {a : Addr} {xs : List V} (hs : SqT K H1 a xs) (ps : List α) (hl : xs.length = ps.length) (hz : ps.length ≤ 50000) (f : α → Option V)
    (step : ∀ (i : Nat) x p H', xs[i]? = some x → ps[i]? = some p → Same H1 H' → ∀ (R : V → Hp → Prop) (R0 : Hp → Prop), (∀ y H'', f p = some y → Same H' H'' → R y H'') → (∀ H'', f p = none → Same H' H'' → R0 H'') →
      g x (wipe σ vs) H' fun σ2 H2 => wipe σ2 vs = wipe σ vs ∧ tt σ2 H2 fun b H3 => if b = true then te σ2 H3 R else R0 H3)
    (h : ∀ D H', H1 D = none → Same H1 H' → H' D = some (.lst (ps.filterMap f)) → QD D H') :
    ∃ a', V.ref a = .ref a' ∧ (∃ xs, SqT K H1 a' xs) ∧ ∀ D, H1 D = none → ∃ W : Nat → Nat → Hp → Prop, (∃ m, W 0 m (upd H1 D (.lst []))) ∧ ∀ i m H, W i m H →
      ((Itt K a').stop i H ∧ QD D H) ∨ ((Itt K a').go i H ∧ ∃ Nx : Hp → Prop, (∀ H', Nx H' → ∃ m', m' < m ∧ W (i + 1) m' H') ∧ ∀ x H', (Itt K a').yld i H x H' → g x (wipe σ vs) H' fun σ2 H2 => wipe σ2 vs = wipe σ vs ∧ tt σ2 H2 fun b H3 =>
        if b = true then te σ2 H3 fun y H4 => ∃ acc, H4 D = some (.lst acc) ∧ acc.length < sizeLine ∧ Nx (upd H4 D (.lst (acc ++ [y]))) else Nx H3) := by
  refine ⟨a, rfl, ⟨xs, hs⟩, fun D nD => lc_tup (xs := xs) (fun i H => Same H1 H ∧ H D = some (.lst ((ps.take i).filterMap f))) ⟨same_new nD, by rw [upd_same]; simp⟩ (fun i H _ e => same_seqT e.1 hs) ?_ ?_⟩
  · rintro i x H hx ⟨sm, hD⟩
    have hi : i < xs.length := (List.getElem?_eq_some_iff.mp hx).1
    obtain ⟨p, hp⟩ : ∃ p, ps[i]? = some p := ⟨ps[i]'(by omega), List.getElem?_eq_getElem (by omega)⟩
    have tk := take_filterMap (f := f) hp
    refine step i x p H hx hp sm _ _ (fun y H'' hy s2 => ⟨_, s2 _ _ hD, szl ?_, same_mut (sm.trans s2) nD, ?_⟩) (fun H'' hn s2 => ⟨sm.trans s2, ?_⟩)
    · have := List.length_filterMap_le f (ps.take i)
      rw [List.length_take] at this
      omega
    · rw [upd_same, tk, hy]; rfl
    · rw [tk, hn, s2 _ _ hD]; simp
  · rintro H ⟨sm, hD⟩
    rw [hl, List.take_length] at hD
    exact h D H nD sm hD
end
theorem k_ixN {K : PySem.W.Frag} {H : Hp} {Q : VK} {p : Addr} {ns : List Int} {i : Nat} {x : Int} (hs : SqL K H p (ns.map V.int)) (hx : ns[i]? = some x) (h : Q (.int x) H) : rIxL K (.ref p) (.int i) H Q := k_ixL hs (atI_nat (by rw [List.getElem?_map, hx]; rfl)) h
theorem fm_map {α : Type} (f : α → V) (l : List α) : l.filterMap (fun x => some (f x)) = l.map f := by
  rw [show (fun x => some (f x)) = some ∘ f from rfl, List.filterMap_eq_map]

/-- what follows a statement is shown once, and lies out of sight meanwhile -/
theorem seqO {s1 s2 : TS} {σ : L2.St} {H : Hp} {nx bk ct : L2.St → Hp → Prop} {rt : VK} (G : L2.St → Hp → Prop) (main : ∀ σ H, G σ H → s2 ⟨nx, rt, bk, ct⟩ σ H) (h : ∀ nx' : L2.St → Hp → Prop, (∀ σ H, G σ H → nx' σ H) → s1 ⟨nx', rt, bk, ct⟩ σ H) : tSeq s1 s2 ⟨nx, rt, bk, ct⟩ σ H := h _ main
/-- the last statement of a block -/
theorem lastO {s1 : TS} {σ : L2.St} {H : Hp} {nx bk ct : L2.St → Hp → Prop} {rt : VK} (G : L2.St → Hp → Prop) (main : ∀ σ H, G σ H → nx σ H) (h : ∀ nx' : L2.St → Hp → Prop, (∀ σ H, G σ H → nx' σ H) → s1 ⟨nx', rt, bk, ct⟩ σ H) : s1 ⟨nx, rt, bk, ct⟩ σ H := h _ main

/-! ### texts -/
def rStrInt : List V → Hp → VK → Prop := fun xs H Q => ∃ i : Int, xs = [.int i] ∧ i.natAbs.log2 < 1920 ∧ Q (.str (toString i)) H
theorem q_strI {X : Cx} : CallR X (.type "str") rStrInt := call_str_int
def xAddS : R2 := fun x y H Q => ∃ i j, x = .str i ∧ y = .str j ∧ i.length + j.length ≤ sizeLine ∧ Q (.str (i ++ j)) H
def rJoin (K : PySem.W.Frag) : V → List V → Hp → VK → Prop := fun x xs H Q => ∃ a p, ∃ ys : List Str, x = .str a ∧ xs = [.ref p] ∧ (SqL K H p (ys.map V.str) ∨ SqT K H p (ys.map V.str)) ∧ (ys.map (·.length)).sum + ys.length * a.length ≤ 16777216 ∧ Q (.str (Txt.join a ys)) H
/-- the signs of a text -/
abbrev sg (s : Str) : List Nat := TL.tl s
def mkS (l : List Nat) : Str := ⟨l.toArray⟩
theorem sg_mkS (l : List Nat) : sg (mkS l) = l := rfl
theorem mkS_sg (s : Str) : mkS (sg s) = s := TL.ext_tl rfl
theorem mkS_inj {l m : List Nat} : mkS l = mkS m ↔ l = m := ⟨fun h => by have := congrArg sg h; rwa [sg_mkS, sg_mkS] at this, fun h => by rw [h]⟩
/-- the signs of a whole number -/
def nu (i : Int) : List Nat := sg (Str.ofString (toString i))
section
variable {K : PySem.W.Frag} {σ : L2.St} {H : Hp} {Q : VK} {to te : TE}
instance {r : V → List V → Hp → VK → Prop} : Stp (tM1 r to te σ H Q) (to σ H fun x H1 => (∃ a, x = .str a) ∧ te σ H1 fun y H2 => r x [y] H2 Q) := ⟨fun h => h⟩
instance {r : V → List V → Hp → VK → Prop} : Stp (tM0 r to σ H Q) (to σ H fun x H1 => (∃ a, x = .str a) ∧ r x [] H1 Q) := ⟨fun h => h⟩
instance {s : Str} {R : Prop} : Stp ((∃ a, V.str s = .str a) ∧ R) R := ⟨fun h => ⟨⟨s, rfl⟩, h⟩⟩
instance : Stp (tLenU K te σ H Q) (te σ H fun x H1 => ∃ (l : Addr) (ns : List Int), x = .ref l ∧ SqL K H1 l (ns.map V.int) ∧ ns.length ≤ 4000 ∧ Q (.int (unl ns : Nat)) H1) := ⟨fun h => h⟩
theorem k_lenU {l : Addr} {ns : List Int} (hs : SqL K H l (ns.map V.int)) (hl : ns.length ≤ 4000) (h : Q (.int (unl ns : Nat)) H) : ∃ (l' : Addr) (ns : List Int), V.ref l = .ref l' ∧ SqL K H l' (ns.map V.int) ∧ ns.length ≤ 4000 ∧ Q (.int (unl ns : Nat)) H := ⟨l, ns, rfl, hs, hl, h⟩
/-- a number of at most thirty figures -/
def Num30 (i : Int) : Prop := 0 ≤ i ∧ i < 10 ^ 30
theorem log_lt {n : Nat} (h : n < 2 ^ 1900) : n.log2 < 1920 := by
  by_cases c : n = 0
  · subst c; decide
  · have := (Nat.log2_lt c (k := 1900)).mpr h
    omega
theorem k_strI {i : Int} (h0 : i.natAbs < 2 ^ 1900) (h : Q (.str (mkS (nu i))) H) : rStrInt [.int i] H Q := ⟨i, rfl, log_lt h0, by unfold nu at h; rw [mkS_sg] at h; exact h⟩
theorem len_sg (s : Str) : s.length = (sg s).length := TL.len_tl s
theorem k_addS {s t : Str} (hz : (sg s).length + (sg t).length ≤ 100000) (h : Q (.str (mkS (sg s ++ sg t))) H) : xAddS (.str s) (.str t) H Q := ⟨s, t, rfl, rfl, by rw [len_sg, len_sg]; exact sz hz, by
  have e : s ++ t = mkS (sg s ++ sg t) := TL.ext_tl (TL.tl_append s t)
  rw [e]; exact h⟩
theorem k_join {s : Str} {p : Addr} {ys : List Str} (hp : SqL K H p (ys.map V.str)) (hz : (ys.map (·.length)).sum + ys.length * s.length ≤ 16777216) (h : Q (.str (mkS (TL.joinL (sg s) (ys.map sg)))) H) : rJoin K (.str s) [.ref p] H Q :=
  ⟨s, p, ys, rfl, rfl, .inl hp, hz, by
    have e : Txt.join s ys = mkS (TL.joinL (sg s) (ys.map sg)) := TL.ext_tl (by rw [TL.join_eq]; exact TL.tl_join s ys)
    rw [e]; exact h⟩
theorem k_isiS {s : Str} (h : Q (.bl true) H) : rIsi K [.str s, .ty "str"] H Q := k_isi (.base (.str s)) (by decide +kernel) h
end
/-! ### more of texts -/
def g_tokS (mg : Str → Option Value) (x : Str) : Tok := match mg x with
  | some (.str _ t) => t
  | _ => default
theorem tok_mkS {mg : Str → Option Value} {x n : Str} {t : Tok} (h : mg x = some (.str n t)) : mg x = some (.str n (g_tokS mg x)) := by
  unfold g_tokS
  rw [h]
theorem q_isiT {X : Cx} : CallR X (.builtin "isinstance") (rIsiT X.K) := call_isiT
def rLenStr : List V → Hp → VK → Prop := fun xs H Q => ∃ z : Str, xs = [.str z] ∧ z.length ≤ sizeLine ∧ Q (.int z.length) H
theorem q_lenS {X : Cx} : CallR X (.builtin "len") rLenStr := call_len_str
def xInS : R2 := fun x y H Q => ∃ i j, x = .str i ∧ y = .str j ∧ Q (.bl (!(Builtin.Str.occurrences j i 0 j.length 1).isEmpty)) H
def xNotInS : R2 := fun x y H Q => ∃ i j, x = .str i ∧ y = .str j ∧ Q (.bl (!(!(Builtin.Str.occurrences j i 0 j.length 1).isEmpty))) H
def rFind : V → List V → Hp → VK → Prop := fun x xs H Q => ∃ a b, x = .str a ∧ xs = [.str b] ∧ Q (.int (Txt.find a b)) H
def rSplit : V → List V → Hp → VK → Prop := fun x xs H Q => ∃ a b, x = .str a ∧ xs = [.str b] ∧ (b.length == 0) = false ∧ a.length + 2 ≤ sizeLine ∧ rNewStrs (Txt.split a b) H Q
section
variable {K : PySem.W.Frag} {σ : L2.St} {H : Hp} {Q : VK} {te : TE}
instance {R : It → Hp → Prop} : Stp (iStr te σ H R) (te σ H fun v H1 => ∃ x, v = .str x ∧ R (Its x) H1) := ⟨fun h => h⟩
theorem k_lenS {l : List Nat} (hl : l.length ≤ 100000) (h : Q (.int (l.length : Nat)) H) : rLenStr [.str (mkS l)] H Q := ⟨_, rfl, by rw [len_sg, sg_mkS]; exact sz hl, by rw [len_sg, sg_mkS]; exact h⟩
theorem k_notInS {l : List Nat} {c : Nat} (h : Q (.bl (!decide (c ∈ l))) H) : xNotInS (.str ⟨#[c]⟩) (.str (mkS l)) H Q := ⟨_, _, rfl, rfl, by
  rw [StrLaws.found_one]; exact h⟩
theorem k_inS {l : List Nat} {c : Nat} (h : Q (.bl (decide (c ∈ l))) H) : xInS (.str ⟨#[c]⟩) (.str (mkS l)) H Q := ⟨_, _, rfl, rfl, by
  rw [StrLaws.found_one]; exact h⟩
theorem k_split {l : List Nat} {s : Str} {ps : List (List Nat)} (hl : l.length ≤ 99000) (hs : s.length ≠ 0) (hp : Txt.split (mkS l) s = ps.map mkS) (h : ∀ p H', H p = none → Same H H' → H' p = some (.lst (ps.map fun q => V.str (mkS q))) → Q (.ref p) H') : rSplit (.str (mkS l)) [.str s] H Q :=
  ⟨_, _, rfl, rfl, by simpa using hs, by rw [len_sg, sg_mkS]; exact sz (by omega), fun p np => h p _ np (same_new np) (by rw [upd_same, hp, List.map_map]; rfl)⟩
theorem k_ixS {l : List Nat} {i : Nat} {c : Nat} (hl : l.length ≤ 100000) (hc : l[i]? = some c) (h : Q (.str ⟨#[c]⟩) H) : rIxS (.str (mkS l)) (.int i) H Q := ⟨_, _, c, rfl, rfl, by rw [len_sg, sg_mkS]; exact sz hl, atI_nat hc, h⟩
end
theorem split_one {s : Nat} {ps : List (List Nat)} (hs : s < 256) (hne : ps ≠ []) (hp : ∀ p ∈ ps, s ∉ p) : Txt.split (mkS (TL.joinL [s] ps)) ⟨#[s]⟩ = ps.map mkS := by
  have e : mkS (TL.joinL [s] ps) = Txt.join ⟨#[s]⟩ (ps.map mkS) := TL.ext_tl (by
    rw [TL.join_eq, TL.tl_join, List.map_map]
    show TL.joinL [s] ps = TL.joinL [s] (ps.map (TL.tl ∘ mkS))
    rw [show (TL.tl ∘ mkS) = id from rfl, List.map_id])
  rw [e]
  refine TL.split_join (s := s) (S := []) rfl (by simp [hs]) (by simpa using hne) fun p h => ?_
  obtain ⟨q, hq, rfl⟩ := List.mem_map.mp h
  exact hp q hq
/-- rows, each with its end, and what stands behind the last end -/
theorem rows_join (rs : List (List Nat)) (e : Nat) (z : List Nat) : (rs.map fun r => r ++ [e]).flatten ++ z = TL.joinL [e] (rs ++ [z]) := by
  induction rs with
  | nil => rfl
  | cons r t ih =>
    have : TL.joinL [e] (r :: (t ++ [z])) = r ++ ([e] ++ TL.joinL [e] (t ++ [z])) := by
      cases t <;> rfl
    rw [List.cons_append, this, ← ih]
    simp
theorem sg_str (s : String) : sg (Str.ofString s) = s.toList.map Char.toNat := TL.tl_ofString s
theorem nu_nat (n : Nat) : nu (n : Int) = TL.numL n := TL.tl_num n
theorem nu_len {i : Int} (h : 0 ≤ i) {k : Nat} (k0 : 0 < k) (h1 : i < 10 ^ k) : (nu i).length ≤ k := by
  obtain ⟨n, rfl⟩ := Int.eq_ofNat_of_zero_le h
  rw [nu_nat]
  unfold TL.numL
  rw [List.length_map]
  refine (Nat.length_toDigits_le_iff (by decide) k0).mpr ?_
  have : ((n : Nat) : Int) < ((10 ^ k : Nat) : Int) := by rw [Int.natCast_pow]; exact h1
  exact Int.ofNat_lt.mp this
/-- signs behind one another -/
theorem joinL_nil (ps : List (List Nat)) : TL.joinL [] ps = ps.flatten := by
  induction ps with
  | nil => rfl
  | cons p r ih => cases r with
    | nil => simp [TL.joinL]
    | cons q r => show p ++ ([] ++ TL.joinL [] (q :: r)) = _; rw [ih]; simp
theorem joinL_cons (S p : List Nat) (r : List (List Nat)) : TL.joinL S (p :: r) = p ++ (r.map fun q => S ++ q).flatten := by
  induction r generalizing p with
  | nil => simp [TL.joinL]
  | cons q r ih => show p ++ (S ++ TL.joinL S (q :: r)) = _; rw [ih]; simp
theorem sum_le {l : List Nat} {b : Nat} (h : ∀ x ∈ l, x ≤ b) : l.sum ≤ l.length * b := by
  induction l with
  | nil => simp
  | cons x r ih =>
    have h1 := ih fun y hy => h y (List.mem_cons_of_mem _ hy)
    have h2 := h x List.mem_cons_self
    rw [List.sum_cons, List.length_cons, Nat.add_mul]
    omega
theorem flat_le {l : List (List Nat)} {b : Nat} (h : ∀ x ∈ l, x.length ≤ b) : l.flatten.length ≤ l.length * b := by
  rw [List.length_flatten]
  have := sum_le (l := l.map List.length) (b := b) fun x hx => by
    obtain ⟨y, hy, rfl⟩ := List.mem_map.mp hx
    exact h y hy
  rw [List.length_map] at this
  exact this
end Cm

namespace Cm
open PySem PySem.Spec PyProof.Rows L2

/-! ### max(d.values()) -/
def tMaxVals (td : TE) : TE := fun σ H Q => td σ H fun x H1 => ∃ (a : Addr) (kvs : List (Key × V)) (is : List Int), x = V.ref a ∧ H1 a = some (.dK kvs) ∧ kvs.map (·.2) = is.map V.int ∧ is ≠ [] ∧ ∀ m, m ∈ is → (∀ j ∈ is, j ≤ m) → Q (.int m) H1
theorem pe_maxVals {X : Cx} {o : Expr} {p pos apos mpos : Pos} {td : TE} (hc : X.calm = true) (hg : Gl X "max") (hm : X.mg "max" = none) (hd : PE X o td) (hbase : attributeBase o "values" X.env (eval o X.env) = eval o X.env := by rfl) (hline : (apos.endLine == mpos.line) = true := by rfl)
    (hse : starEach [Expr.Call (.Attribute o "values" apos) [] [] mpos] X.env = [(false, eval (Expr.Call (.Attribute o "values" apos) [] [] mpos) X.env)] := by rfl) :
    PE X (.Call (.Name "max" p) [.Call (.Attribute o "values" apos) [] [] mpos] [] pos) (tMaxVals td) := by
  constructor
  intro pins s σ H Q I h
  refine wpAny_Call_Name_kw (ld_blt I hg hm (u := .builtin "max") (by first | rfl | decide +kernel) ?_ (by first | decide +kernel | decide) (by first | decide +kernel | decide))
  rw [hse]
  refine PySem.callWith_builtin1 (wpAny_Call_method0_late hbase hline (thn (hd.run pins s σ H _ I h) ?_))
  rintro v s1 ⟨x, H1, I1, r1, a, kvs, is, rfl, ha, hv, hne, q⟩
  obtain rfl : v = Value.ref a := r1
  obtain ⟨_, hsys, vs, rel, dof⟩ := dk_of I1.hok ha
  obtain ⟨ep, dat⟩ := dof.dictAt
  obtain ⟨ob, es, ho, ex, hdat, hko, hpr, hnd⟩ := id dat
  have lv : vs.length = is.length := by
    have e1 : kvs.length = is.length := by simpa using congrArg List.length hv
    rw [← e1]; exact (KV.length rel).symm
  have l0 : 0 < is.length := List.length_pos_iff.mpr hne
  have vals : ∀ (i : Nat) (v : Value), (∃ k, vs[i]? = some (k, v)) → ∃ t, v = Value.int (is.getD i 0) t := by
    rintro i v ⟨k, hk⟩
    obtain ⟨x, h1, h2⟩ := KV.at' rel hk
    have e1 : (is.map V.int)[i]? = some x := by rw [← hv, List.getElem?_map, h1] <;> rfl
    rw [List.getElem?_map] at e1
    obtain ⟨j, hj, rfl⟩ := Option.map_eq_some_iff.mp e1
    obtain ⟨t, e3⟩ := h2
    exact ⟨t, by rw [e3, List.getD_eq_getElem?_getD, hj] <;> rfl⟩
  refine ⟨"dict", "dict.values", F.plainAttrs_dict, F.slot_dict_values, F.type_dict_values, ⟨ob, ho, ex.1⟩, fun b e => by cases e; exact ⟨ob, ho, ex.2.1⟩, Calls.callWith_builtin rfl (PySem.evalArgs_none ?_)⟩
  refine call_meetsIn F.slot_dict_values ⟨ob, ho, ex.1⟩ F.entry_dict_values (F.args_dict_values_1 _) (meets_dict_values (mixKind X.prog X.w) a hsys) ⟨⟨vs, dof⟩, ?_⟩
  have up : ∀ b u, s1.heap.get? b = some u → (s1.heap.push { cls := .type "dict_values", data := .fields #[.ref a] }).get? b = some u := fun b u e => Heap.get?_push_of_some _ e
  have dat1 := dat.keep up
  have alt : a < s1.heap.objs.size := Heap.lt_size ho
  have sz : (s1.heap.push { cls := .type "dict_values", data := .fields #[.ref a] }).objs.size = s1.heap.objs.size + 1 := Heap.size_push _ _
  refine call_max_walk (wpAny_pyIter_values (v := s1.heap.objs.size) (d := a) ⟨_, Heap.get?_push_size _ rfl, rfl, rfl⟩ dat1 ?_)
  refine ⟨_, _, _, _, _, _, _, rfl, Walks.dictValues (knd := mixKind X.prog X.w) (A := X.A.in1) (I.ok.hd hc) (s1.heap.push { cls := .type "dict_values", data := .fields #[.ref a] }).objs.size a (by rw [sz]; exact Nat.ne_of_lt (Nat.lt_succ_of_lt alt)) vs ep,
    ⟨⟨_, Heap.get?_push_size _ rfl, rfl, rfl⟩, dat1.keep fun b u e => Heap.get?_push_of_some _ e⟩, ?_, by omega, CmpOf.ints_gt (fun i => is.getD i 0) vals, ?_⟩
  · intro b hb
    show b < ((s1.heap.push _).push _).objs.size
    rw [Heap.size_push, Heap.size_push]
    rw [sz] at hb
    rcases List.mem_cons.mp hb with e | hb
    · rw [e]; exact Nat.lt_succ_self _
    · rw [show b = a from List.mem_singleton.mp hb]
      exact Nat.lt_succ_of_lt (Nat.lt_succ_of_lt alt)
  · intro v h' tk hP hk
    obtain ⟨t, rfl⟩ := vals _ v hP
    obtain ⟨b1, b2⟩ := argBest_gt (fun i => is.getD i 0) (vs.length - 1)
    refine ⟨.int _, H1, I1.kept (t' := tk) fun b u e => hk b u (fun hmem => ?_) (Heap.get?_push_of_some _ (up b u e)), ⟨t, rfl⟩, q _ ?_ ?_⟩
    · have e1 := List.mem_singleton.mp hmem
      have e2 := Heap.lt_size e
      rw [sz] at e1
      rw [e1] at e2
      exact Nat.lt_irrefl _ (Nat.lt_of_lt_of_le e2 (Nat.le_succ _))
    · have hb : argBest (fun i j => decide (is.getD i 0 > is.getD j 0)) (vs.length - 1) < is.length := by omega
      rw [List.getD_eq_getElem?_getD, List.getElem?_eq_getElem hb]
      exact List.getElem_mem hb
    · intro j hj
      obtain ⟨i, hi, rfl⟩ := List.mem_iff_getElem.mp hj
      have e2 : is.getD i 0 = is[i] := by rw [List.getD_eq_getElem?_getD, List.getElem?_eq_getElem hi] <;> rfl
      rw [← e2]
      exact b2 i (by omega)

/-! ### fields and methods of an instance -/
section
variable {K : PySem.W.Frag} {σ : L2.St} {H : Hp} {Q : VK} {ta tv : TE} {t : TA} {f m : Str} {a C dx : Addr} {fs : List (Str × V)}
/-- x.f is read -/
def gF (K : PySem.W.Frag) (f : Str) (x : V) (H : Hp) (Q : VK) : Prop := ∃ a C dx fs v, x = .ref a ∧ H a = some (.ins C dx fs) ∧ Cls K C ∧ NoAttr K C f ∧ fs.lookup f = some v ∧ Q v H
instance : Stp (tFld K ta f σ H Q) (ta σ H fun x H1 => gF K f x H1 Q) := ⟨id⟩
theorem k_gF {v : V} (e : H a = some (.ins C dx fs)) (c : Cls K C) (n : NoAttr K C f) (l : fs.lookup f = some v) (h : Q v H) : gF K f (.ref a) H Q := ⟨a, C, dx, fs, v, rfl, e, c, n, l, h⟩
/-- x.f = y is written -/
def pF (K : PySem.W.Frag) (f : Str) (x y : V) (H : Hp) (N : Hp → Prop) : Prop := ∃ a C dx fs, x = .ref a ∧ H a = some (.ins C dx fs) ∧ Cls K C ∧ NoAttr K C f ∧ fs.length < 1000 ∧ N (upd H a (.ins C dx (putF f y fs)))
instance {nx bk ct : L2.St → Hp → Prop} {rt : VK} : Stp (sFld K ta tv f ⟨nx, rt, bk, ct⟩ σ H) (tv σ H fun y H1 => ta σ H1 fun x H2 => pF K f x y H2 (nx σ)) := ⟨id⟩
theorem k_pF {y : V} {N : Hp → Prop} (e : H a = some (.ins C dx fs)) (c : Cls K C) (n : NoAttr K C f) (l : fs.length < 1000) (h : N (upd H a (.ins C dx (putF f y fs)))) : pF K f (.ref a) y H N := ⟨a, C, dx, fs, rfl, e, c, n, l, h⟩
/-- x.m is a method's call -/
def mF (C : Addr) (m : Str) (x : V) (H : Hp) (P : Prop) : Prop := ∃ a dx fs, x = .ref a ∧ H a = some (.ins C dx fs) ∧ fs.lookup m = none ∧ P
instance {sp : Sp} {E : XK} : Stp (tMeth C m sp [] E ta t σ H Q) (ta σ H fun x H1 => mF C m x H1 (t σ H1 fun vs H2 => sp (x :: vs) H2 Q E)) := ⟨fun h => by
  unfold tMeth
  simp only [List.append_nil]
  exact h⟩
theorem k_mF {P : Prop} (e : H a = some (.ins C dx fs)) (l : fs.lookup m = none) (h : P) : mF C m (.ref a) H P := ⟨a, dx, fs, rfl, e, l, h⟩
/-- a new instance -/
def newI (C : Addr) (sp : Sp) (E : XK) (vs : List V) (H : Hp) (Q : VK) : Prop := ∀ x dx, H x = none → H dx = none → dx ≠ x → sp (.ref x :: vs) (upd (upd H dx (.own x)) x (.ins C dx [])) (fun v H2 => v = .non ∧ Q (.ref x) H2) E
instance {sp : Sp} {E : XK} : Stp (tMake C sp [] E t σ H Q) (t σ H fun vs H1 => newI C sp E vs H1 Q) := ⟨fun h => by
  unfold tMake
  simp only [List.append_nil]
  exact h⟩
end

/-! ### methods and makings that may raise, in a try -/
section
variable {X : Cx} {CX : CXT} {k : Nat} {f C : Addr} {fd : FuncData} {ps : List Str} {sp : Sp} {E : L2.St → XK} {x m : Str} {p pos apos : Pos} {e o : Expr} {es : List Expr} {ta : TE} {t : TA}
def tMtS (C : Addr) (m : Str) (sp : Sp) (E : L2.St → XK) (ta : TE) (t : TA) : TE := fun σ H Q => ta σ H fun x H1 => ∃ a dx fs, x = .ref a ∧ H1 a = some (.ins C dx fs) ∧ fs.lookup m = none ∧ t σ H1 fun vs H2 => sp (x :: vs) H2 Q (E σ)
theorem pe_mtS {pl : Sem Bool} (he : PE X o ta) (c : Cls X.K C) (hm : Meth X.K C m f) (F : FnOk X.prog X.w X.K X.mg X.base CX k f fd ps sp) (hr : Room k X.A) (hb : Binds X.K fd ps []) (hx : ∀ σ, PassesAt CX X σ (E σ)) (ha : PA X (e :: es) t)
    (hst : starEach (e :: es) X.env = (false, eval e X.env) :: starEach es X.env := by rfl) (hpl : (backTo pos (starEach es X.env)).any (·.1) = false := by rfl)
    (ht : eval (.Call (.Attribute o m apos) (e :: es) [] pos) X.env = (do
      let ov ← eval o X.env
      standAt apos.atName
      let (f, first) ← holding [ov] (getMethod ov m pl)
      callWith pos f first (backTo pos (starEach (e :: es) X.env)) (backToKw pos (keywordEach [] X.env))) := by rfl) :
    PE X (.Call (.Attribute o m apos) (e :: es) [] pos) (tMtS C m sp E ta t) := by
  refine ⟨fun pins s σ H Q I h => ?_⟩
  refine PySem.W.methodCall_KW (pl := pl) (thn (he.run pins s σ H _ I h) fun u s1 ⟨x, H1, I1, rx, a, dx, fs, ex, ea, l, q⟩ => ?_) ht
  subst ex
  obtain rfl : u = Value.ref a := rx
  refine getmeth_ok I1 ea c hm l ?_
  refine PySem.W.callWith_K (first := [.ref a]) (h₀ := X.base) I.ok.mod.kin hm.kp (thn (ha.run pos pins s1 σ H1 _ I1 q) fun us s2 ⟨vs, H2, I2, r, q2⟩ => ⟨I2.kIn, ?_⟩) hst hpl
  exact run_fnS (us := .ref a :: us) (vs := .ref a :: vs) F hr hb (hx σ) I2 (.cons rfl r) q2
def tMakeS (C : Addr) (sp : Sp) (E : L2.St → XK) (t : TA) : TE := fun σ H Q => t σ H fun vs H1 => ∀ x dx, H1 x = none → H1 dx = none → dx ≠ x → sp (.ref x :: vs) (upd (upd H1 dx (.own x)) x (.ins C dx [])) (fun v H2 => v = .non ∧ Q (.ref x) H2) (E σ)
theorem pe_makeS (M : Mk X.K C f) (F : FnOk X.prog X.w X.K X.mg X.base CX k f fd ps sp) (hr : Room (k + 1) X.A) (hg : Gl X x) (hm : X.mg x = some (.ref C)) (hb : Binds X.K fd ps []) (hx : ∀ σ, PassesAt CX X σ (E σ))
    (ha : PA X (e :: es) t) (hdb : (x == ("__debug__" : Str)) = false := by decide) (he : starEach (e :: es) X.env = (false, eval e X.env) :: starEach es X.env := by rfl) (hpl : (backTo pos (starEach es X.env)).any (·.1) = false := by rfl) :
    PE X (.Call (.Name x p) (e :: es) [] pos) (tMakeS C sp E t) := by
  refine ⟨fun pins s σ H Q I h => ?_⟩
  refine wpAny_Call_Name_kw (ld_glob I hg hm ?_ hdb)
  refine PySem.W.callWith_K (h₀ := X.base) I.ok.mod.kin M.kp (thn (ha.run pos pins s σ H _ I h) fun us s1 ⟨vs, H1, I1, r, q⟩ => ⟨I1.kIn, ?_⟩) he hpl
  have hq := q (s1.heap.objs.size + 1) s1.heap.objs.size (I1.hok.fresh (Nat.le_succ _)) (I1.hok.fresh (Nat.le_refl _)) (Nat.ne_of_lt (Nat.lt_succ_self _))
  have I2 := Inv.made (C := C) I1
  have r2 : Vals (V.ref (s1.heap.objs.size + 1) :: vs) (Value.ref (s1.heap.objs.size + 1) :: us) := .cons rfl r
  have hl : (Value.ref (s1.heap.objs.size + 1) :: us ++ []).length = ps.length := by
    have e := r2.length
    rw [F.len _ _ _ _ hq] at e
    rw [List.append_nil]
    exact e.symm
  have b := hb _ (Value.ref (s1.heap.objs.size + 1) :: us) I2.kIn hl
  rw [List.append_nil] at b
  refine wpAny_call (make_map (f := f) I1.kIn M.makes M.init (beq_iff_eq.mp M.fn) (codeAny_mono (F.run _ X.stack _ _ ⟨Value.ref (s1.heap.objs.size + 1) :: us, []⟩ (Value.ref (s1.heap.objs.size + 1) :: us) _ _ (E σ) (hr.make C us [])
    (I2.env0.make C us []) b r2 hq) fun r s' hq' => ?_))
  cases r with
  | error e => exact hx σ pins _ _ e s' I2 hq'
  | ok fl =>
    cases fl with
    | ret u =>
      obtain ⟨v, H', I3, rv, ev, q3⟩ := I2.after hq'
      subst ev
      exact ⟨rv, ⟨V.ref (s1.heap.objs.size + 1), H', I3, rfl, q3⟩⟩
    | next => exact False.elim hq'
    | brk => exact False.elim hq'
    | cont => exact False.elim hq'
end
section
variable {σ : L2.St} {H : Hp} {Q : VK} {ta : TE} {t : TA} {m : Str} {C : Addr}
instance {sp : Sp} {E : L2.St → XK} : Stp (tMtS C m sp E ta t σ H Q) (ta σ H fun x H1 => mF C m x H1 (t σ H1 fun vs H2 => sp (x :: vs) H2 Q (E σ))) := ⟨id⟩
instance {sp : Sp} {E : L2.St → XK} : Stp (tMakeS C sp E t σ H Q) (t σ H fun vs H1 => newI C sp (E σ) vs H1 Q) := ⟨id⟩
end
/-! ### a comprehension over a range whose items are new things, each by itself -/
section
variable {K : PySem.W.Frag} {σ : L2.St} {H1 : Hp} {Q : VK} {g : TG} {tt : TT} {te : TE} {vs : List Nat}
theorem lc_rowsR {QD : Addr → Hp → Prop} {lo : Int} {n : Nat} (hz : n ≤ 50000) (F : Nat → HO)
    (step : ∀ (i : Nat) H', i < n → Same H1 H' → ∀ (R : V → Hp → Prop) (R0 : Hp → Prop), (∀ p H'', H' p = none → Same H' H'' → H'' p = some (F i) → R (.ref p) H'') →
      g (.int (lo + (i : Nat))) (wipe σ vs) H' fun σ2 H2 => wipe σ2 vs = wipe σ vs ∧ tt σ2 H2 fun b H3 => if b = true then te σ2 H3 R else R0 H3)
    (h : ∀ (D : Addr) (rs : List Addr) (H' : Hp), H1 D = none → Same H1 H' → H' D = some (.lst (rs.map V.ref)) → rs.length = n → rs.Nodup → D ∉ rs → (∀ r ∈ rs, H1 r = none) → (∀ (j : Nat) r, rs[j]? = some r → H' r = some (F j)) → QD D H') :
    ∀ D, H1 D = none → ∃ W : Nat → Nat → Hp → Prop, (∃ m, W 0 m (upd H1 D (.lst []))) ∧ ∀ i m H, W i m H →
      ((Itr lo n).stop i H ∧ QD D H) ∨ ((Itr lo n).go i H ∧ ∃ Nx : Hp → Prop, (∀ H', Nx H' → ∃ m', m' < m ∧ W (i + 1) m' H') ∧ ∀ x H', (Itr lo n).yld i H x H' → g x (wipe σ vs) H' fun σ2 H2 => wipe σ2 vs = wipe σ vs ∧ tt σ2 H2 fun b H3 =>
        if b = true then te σ2 H3 fun y H4 => ∃ acc, H4 D = some (.lst acc) ∧ acc.length < sizeLine ∧ Nx (upd H4 D (.lst (acc ++ [y]))) else Nx H3) := by
  refine fun D nD => lc_range (fun i H => Same H1 H ∧ ∃ rs : List Addr, H D = some (.lst (rs.map V.ref)) ∧ rs.length = i ∧ rs.Nodup ∧ D ∉ rs ∧ (∀ r ∈ rs, H1 r = none) ∧ ∀ (j : Nat) r, rs[j]? = some r → H r = some (F j))
    ⟨same_new nD, [], by rw [upd_same]; rfl, rfl, List.nodup_nil, by simp, (fun r z => by cases z), (fun j r z => by simp at z)⟩ ?_ ?_
  · rintro i H hi ⟨sm, rs, hD, lr, nd, dr, fr, at_⟩
    refine step i H hi sm _ _ (fun p H'' np s2 ep => ⟨_, s2 _ _ hD, szl (by simp; omega), same_mut (sm.trans s2) nD, rs ++ [p], ?_, by simp [lr], ?_, ?_, ?_, ?_⟩)
    · rw [upd_same, List.map_append]; rfl
    · rw [List.nodup_append]
      refine ⟨nd, by simp, fun r hr q hq e => ?_⟩
      rw [List.mem_singleton.mp hq] at e
      subst e
      obtain ⟨j, hj⟩ := List.mem_iff_getElem?.mp hr
      rw [at_ j _ hj] at np
      cases np
    · intro z
      rcases List.mem_append.mp z with z | z
      · exact dr z
      · rw [List.mem_singleton.mp z] at hD
        rw [hD] at np
        cases np
    · intro r hr
      rcases List.mem_append.mp hr with hr | hr
      · exact fr r hr
      · rw [List.mem_singleton.mp hr]; exact sm.free np
    · intro j r hr
      have rD : r ≠ D := fun e => by
        rcases List.mem_append.mp (List.mem_of_getElem? hr) with z | z
        · exact dr (e ▸ z)
        · rw [List.mem_singleton.mp z] at e
          rw [e, hD] at np
          cases np
      rw [upd_ne rD]
      by_cases c : j < rs.length
      · rw [List.getElem?_append_left c] at hr
        exact s2 _ _ (at_ j r hr)
      · have hj : j = i := by
          have := (List.getElem?_eq_some_iff.mp hr).1
          simp at this
          omega
        subst hj
        rw [List.getElem?_append_right (by omega), lr, Nat.sub_self] at hr
        cases hr
        exact ep
  · rintro H ⟨sm, rs, hD, lr, nd, dr, fr, at_⟩
    exact h D rs H nD sm hD lr nd dr fr at_
end
/-! ### dicts with whole numbers for keys -/
section
variable {σ : L2.St} {H : Hp} {Q : VK} {td ty tx tv : TE} {p : Addr} {kvs : List (Key × V)} {t : Int} {v z : V} {nx bk ct : L2.St → Hp → Prop} {rt : VK}
def newD (H : Hp) (Q : VK) : Prop := ∀ p, H p = none → Q (.ref p) (upd H p (.dK []))
instance : Stp (tDNewK σ H Q) (newD H Q) := ⟨id⟩
theorem kD (h : ∀ p H', H p = none → Same H H' → H' p = some (.dK []) → Q (.ref p) H') : newD H Q := fun p np => h p _ np (same_new np) upd_same
def aD (x : V) (H : Hp) (R : Addr → Prop) : Prop := ∃ a, x = .ref a ∧ IsD H a ∧ R a
def gD2 (a : Addr) (y z : V) (H : Hp) (Q : VK) : Prop := ∃ o, DGet H a y o ∧ Q (o.getD z) H
instance : Stp (tDGet2 td ty tx σ H Q) (td σ H fun x H1 => aD x H1 fun a => ty σ H1 fun y H2 => tx σ H2 fun z H3 => gD2 a y z H3 Q) := ⟨id⟩
theorem k_aD {R : Addr → Prop} (e : H p = some (.dK kvs)) (h : R p) : aD (.ref p) H R := ⟨p, rfl, .inl ⟨kvs, .inl e⟩, h⟩
theorem k_gD2 (e : H p = some (.dK kvs)) (h : Q ((valV kvs (.inl t)).getD z) H) : gD2 p (.int t) z H Q := ⟨_, DGet.k (k := .inl t) e, h⟩
def pD (x y v : V) (H : Hp) (N : Hp → Prop) : Prop := ∃ a H4, x = .ref a ∧ DPut H a y v H4 ∧ N H4
instance : Stp (sDPut td ty tv ⟨nx, rt, bk, ct⟩ σ H) (tv σ H fun v H1 => td σ H1 fun x H2 => ty σ H2 fun y H3 => pD x y v H3 (nx σ)) := ⟨id⟩
theorem k_pD {N : Hp → Prop} (e : H p = some (.dK kvs)) (l : kvs.length < 100000) (h : N (upd H p (.dK (putK kvs (.inl t) v)))) : pD (.ref p) (.int t) v H N := ⟨p, _, rfl, DPut.k (k := .inl t) e (szl l), h⟩
def gMx (x : V) (H : Hp) (Q : VK) : Prop := ∃ (a : Addr) (kvs : List (Key × V)) (is : List Int), x = V.ref a ∧ H a = some (.dK kvs) ∧ kvs.map (·.2) = is.map V.int ∧ is ≠ [] ∧ ∀ m, m ∈ is → (∀ j ∈ is, j ≤ m) → Q (.int m) H
instance : Stp (tMaxVals td σ H Q) (td σ H fun x H1 => gMx x H1 Q) := ⟨id⟩
theorem k_gMx {is : List Int} (e : H p = some (.dK kvs)) (hv : kvs.map (·.2) = is.map V.int) (ne : is ≠ []) (h : ∀ m, m ∈ is → (∀ j ∈ is, j ≤ m) → Q (.int m) H) : gMx (.ref p) H Q := ⟨p, kvs, is, rfl, e, hv, ne, h⟩
end
/-! ### list.insert -/
def rIns : V → List V → Hp → VK → Prop := fun x vs H Q => ∃ (l : Addr) (xs : List V) (i : Int) (y : V), x = .ref l ∧ vs = [.int i, y] ∧ H l = some (.lst xs) ∧ xs.length < sizeLine ∧ 0 ≤ i ∧ i < 2 ^ 63 ∧ Q .non (upd H l (.lst (xs.take i.toNat ++ [y] ++ xs.drop i.toNat)))
theorem k_ins {H : Hp} {Q : VK} {l : Addr} {xs : List V} {i : Int} {y : V} (e : H l = some (.lst xs)) (hl : xs.length < 100000) (h0 : 0 ≤ i) (h1 : i < 1000000) (h : Q .non (upd H l (.lst (xs.take i.toNat ++ [y] ++ xs.drop i.toNat)))) : rIns (.ref l) [.int i, y] H Q := ⟨l, xs, i, y, rfl, rfl, e, szl hl, h0, by omega, h⟩
/-! ### reads of a dict, loops over its keys -/
section
variable {σ : L2.St} {H : Hp} {Q : VK} {td ty : TE} {p : Addr} {kvs : List (Key × V)} {t : Int} {v : V} {nx bk ct : L2.St → Hp → Prop} {rt : VK}
def gD1 (x y : V) (H : Hp) (Q : VK) : Prop := ∃ a v, x = .ref a ∧ DGet H a y (some v) ∧ Q v H
instance : Stp (tDGet td ty σ H Q) (td σ H fun x H1 => ty σ H1 fun y H2 => gD1 x y H2 Q) := ⟨id⟩
theorem k_gD1 (e : Rd H p (.dK kvs)) (hv : valV kvs (.inl t) = some v) (h : Q v H) : gD1 (.ref p) (.int t) H Q := ⟨p, v, rfl, .inl ⟨kvs, .inl t, e, rfl, hv.symm⟩, h⟩
theorem upd_self {H : Hp} {d : Addr} {u : HO} (h : H d = some u) : upd H d u = H := by
  funext b
  unfold upd
  split
  · rename_i e; rw [e, h]
  · rfl
/-- a for over the keys of a dict of numbers; the heap stays -/
theorem forD {g : TG} {tb : TS} {D : Ends} (hd : H p = some (.dK kvs)) (Pv : Nat → L2.St → Prop) (h0 : Pv 0 σ)
    (htd : ∀ (R : V → Hp → Prop) od, R (.ref p) (upd H p (.frz od (.dK kvs))) → td σ (upd H p (.frz od (.dK kvs))) R)
    (hs : ∀ (od : Obj) (i : Nat) k v σ, kvs[i]? = some (k, v) → Pv i σ → ∀ (N B C : L2.St → Hp → Prop) (rt : VK), (∀ σ', Pv (i + 1) σ' → N σ' (upd H p (.frz od (.dK kvs)))) → (∀ v, D.rt v H → rt v (upd H p (.frz od (.dK kvs)))) →
      g (kV k) σ (upd H p (.frz od (.dK kvs))) fun σ2 H2 => tb ⟨N, rt, B, C⟩ σ2 H2)
    (fin : ∀ σ', Pv kvs.length σ' → D.nx σ' H) : tLock (tFor (iKeys td) g tb) D σ H := by
  refine ⟨p, .dK kvs, hd, trivial, fun od => ?_⟩
  refine htd _ od ⟨p, od, rfl, .inl ⟨kvs, upd_same, ?_⟩⟩
  have back : upd (upd H p (.frz od (.dK kvs))) p (.dK kvs) = H := by rw [upd_upd, upd_self hd]
  refine for_it walk_keys (fun i σ' H' => H' = upd H p (.frz od (.dK kvs)) ∧ Pv i σ') ⟨rfl, h0⟩ (fun i σ' H' _ e => by rw [e.1]; exact upd_same) ?_ ?_
  · rintro i x σ' H' H'' hi ⟨rfl, pv⟩ ⟨rfl, k, v, hkv, rfl⟩
    exact hs od i k v σ' hkv pv _ _ _ _ (fun σ' h => ⟨rfl, h⟩) (fun v h => ⟨upd_same, by rw [back]; exact h⟩)
  · rintro σ' H' ⟨rfl, pv⟩
    exact ⟨upd_same, by rw [back]; exact fin σ' pv⟩
end
/-- a dict of counts -/
structure Cnt (kvs : List (Key × V)) (c : Int → Nat) (m : Nat) : Prop where
  isI : ∃ is : List Int, kvs.map (·.2) = is.map V.int
  val : ∀ t, valV kvs (.inl t) = if c t = 0 then none else some (.int (c t : Nat))
  len : kvs.length ≤ m
theorem Cnt.nil : Cnt [] (fun _ => 0) 0 := ⟨⟨[], rfl⟩, fun t => by rw [valV_nil]; rfl, Nat.le_refl _⟩
theorem putK_lenN (c : List (Key × V)) (k : Key) (x : V) : (putK c k x).length ≤ c.length + 1 := by
  unfold putK
  split
  · rw [List.length_map]; omega
  · rw [List.length_append]; simp
theorem mapK_ints {k : Key} {x : Int} : ∀ (kvs : List (Key × V)) (is : List Int), kvs.map (·.2) = is.map V.int → ∃ is : List Int, (kvs.map fun kv => if kv.1 = k then (kv.1, V.int x) else kv).map (·.2) = is.map V.int
  | [], _, _ => ⟨[], rfl⟩
  | a :: r, [], h => by simp at h
  | a :: r, j :: js, h => by
    simp only [List.map_cons, List.cons.injEq] at h
    obtain ⟨is', h'⟩ := mapK_ints r js h.2
    by_cases c : a.1 = k
    · exact ⟨x :: is', by rw [List.map_cons, List.map_cons, if_pos c, h']; rfl⟩
    · exact ⟨j :: is', by rw [List.map_cons, List.map_cons, if_neg c, h', h.1]; rfl⟩
theorem putK_ints {kvs : List (Key × V)} {k : Key} {x : Int} (h : ∃ is : List Int, kvs.map (·.2) = is.map V.int) : ∃ is : List Int, (putK kvs k (.int x)).map (·.2) = is.map V.int := by
  obtain ⟨is, h⟩ := h
  unfold putK
  split
  · exact mapK_ints kvs is h
  · exact ⟨is ++ [x], by rw [List.map_append, List.map_append, h]; rfl⟩
theorem Cnt.put {kvs : List (Key × V)} {c : Int → Nat} {m : Nat} (h : Cnt kvs c m) (t : Int) {x : Int} (hx : x = ((c t + 1 : Nat) : Int)) : Cnt (putK kvs (.inl t) (.int x)) (fun s => if s = t then c s + 1 else c s) (m + 1) := by
  obtain ⟨h1, h2, h3⟩ := h
  refine ⟨putK_ints h1, fun s => ?_, Nat.le_trans (putK_lenN _ _ _) (by omega)⟩
  rw [valV_put]
  by_cases e : s = t
  · subst e
    rw [if_pos rfl, if_pos rfl, if_neg (by omega), hx]
  · rw [if_neg (fun z => e (by simpa using z)), if_neg e]
    exact h2 s
theorem Cnt.get {kvs : List (Key × V)} {c : Int → Nat} {m : Nat} (h : Cnt kvs c m) (t : Int) : (valV kvs (.inl t)).getD (.int 0) = .int (c t : Nat) := by
  rw [h.val t]
  split
  · rename_i e
    rw [e]; rfl
  · rfl
theorem Cnt.mem {kvs : List (Key × V)} {c : Int → Nat} {m : Nat} (h : Cnt kvs c m) {is : List Int} (hi : kvs.map (·.2) = is.map V.int) {t : Int} (ht : c t ≠ 0) : ((c t : Nat) : Int) ∈ is := by
  have hv := h.val t
  rw [if_neg ht] at hv
  unfold valV at hv
  obtain ⟨kv, hk, e⟩ := Option.map_eq_some_iff.mp hv
  have hm : V.int ((c t : Nat) : Int) ∈ is.map V.int := by
    rw [← hi, ← e]
    exact List.mem_map_of_mem (List.mem_of_find?_eq_some hk)
  obtain ⟨y, hy, e2⟩ := List.mem_map.mp hm
  cases e2
  exact hy
theorem Cnt.ext {kvs : List (Key × V)} {c c' : Int → Nat} {m m' : Nat} (h : Cnt kvs c m) (e : ∀ t, c t = c' t) (l : m ≤ m') : Cnt kvs c' m' := by
  obtain rfl : c = c' := funext e
  exact ⟨h.isI, h.val, Nat.le_trans h.len l⟩
/-! ### a list told by its places -/
theorem getR {n l : Nat} {f : Nat → Int} (h : l < n) : ((List.range n).map f)[l]? = some (f l) := by
  rw [List.getElem?_map, List.getElem?_range h]; rfl
theorem setR {n l : Nat} {f : Nat → Int} {v : Int} : ((List.range n).map f).set l v = (List.range n).map fun j => if j = l then v else f j := by
  refine List.ext_getElem? fun k => ?_
  rw [List.getElem?_set]
  by_cases c : l = k
  · subst c
    rw [if_pos rfl]
    by_cases d : l < n
    · rw [if_pos (by simpa using d), getR d, if_pos rfl]
    · rw [if_neg (by simpa using d), List.getElem?_eq_none (by simpa using d)]
  · rw [if_neg c]
    by_cases d : k < n
    · rw [getR d, getR d, if_neg (fun e => c e.symm)]
    · rw [List.getElem?_eq_none (by simpa using d), List.getElem?_eq_none (by simpa using d)]
/-! ### a range with a step; bits to the right -/
instance {σ : L2.St} {H : Hp} {ta : TA} {R : It → Hp → Prop} : Stp (iRng3 ta σ H R) (ta σ H fun vs H1 => ∃ (i j c : Int) (n : Nat), vs = [.int i, .int j, .int c] ∧ RgC i j c n ∧ R (Itc i c n) H1) := ⟨id⟩
theorem forC {σ : L2.St} {H : Hp} {nx : L2.St → Hp → Prop} {rt : VK} {lo c : Int} {n : Nat} {g : TG} {tb : TS} (Pv : Nat → L2.St → Hp → Prop) (h0 : Pv 0 σ H)
    (hs : ∀ (i : Nat) σ H, i < n → Pv i σ H → g (.int (lo + (i : Nat) * c)) σ H fun σ2 H2 => tb ⟨Pv (i + 1), rt, nx, Pv (i + 1)⟩ σ2 H2) (hd : ∀ σ H, Pv n σ H → nx σ H) :
    ∃ W : Nat → Nat → L2.St → Hp → Prop, (∃ m, W 0 m σ H) ∧ ∀ i m σ H, W i m σ H →
      ((Itc lo c n).stop i H ∧ nx σ H) ∨ ((Itc lo c n).go i H ∧ ∃ N : L2.St → Hp → Prop, (∀ σ' H', N σ' H' → ∃ m', m' < m ∧ W (i + 1) m' σ' H') ∧ ∀ x H', (Itc lo c n).yld i H x H' → g x σ H' fun σ2 H2 => tb ⟨N, rt, nx, N⟩ σ2 H2) :=
  for_rangeC (D := ⟨nx, rt, fun _ _ => False, fun _ _ => False⟩) Pv h0 hs hd
def xShr : R2 := rI (fun _ j => 0 ≤ j) fun i j => .int (i / 2 ^ j.toNat)
theorem k_shr {H : Hp} {Q : VK} {i j : Int} (hc : 0 ≤ j) (h : Q (.int (i / 2 ^ j.toNat)) H) : xShr (.int i) (.int j) H Q := ⟨i, j, rfl, rfl, hc, h⟩
/-! ### dict(d), len(d), k in d -/
def rDictD : List V → Hp → VK → Prop := fun xs H Q => ∃ (a : Addr) (kvs : List (Key × V)), xs = [.ref a] ∧ Rd H a (.dK kvs) ∧ ∀ p, H p = none → Q (.ref p) (upd H p (.dK kvs))
theorem q_dictD {X : Cx} : CallR X (.type "dict") rDictD := call_dictD
def rLenD : List V → Hp → VK → Prop := fun xs H Q => ∃ (a : Addr) (kvs : List (Key × V)), xs = [V.ref a] ∧ H a = some (.dK kvs) ∧ Q (.int kvs.length) H
theorem q_lenD {X : Cx} : CallR X (.builtin "len") rLenD := call_lenD
section
variable {σ : L2.St} {H : Hp} {Q : VK} {td ty : TE} {p : Addr} {kvs : List (Key × V)} {t : Int}
def iD (neg : Bool) (y x : V) (H : Hp) (Q : VK) : Prop := ∃ a o, x = .ref a ∧ DGet H a y o ∧ Q (.bl (if neg then !o.isSome else o.isSome)) H
instance : Stp (tDIn ty td σ H Q) (ty σ H fun y H1 => td σ H1 fun x H2 => iD false y x H2 Q) := ⟨id⟩
instance : Stp (tDNotIn ty td σ H Q) (ty σ H fun y H1 => td σ H1 fun x H2 => iD true y x H2 Q) := ⟨id⟩
theorem k_iD {neg : Bool} (e : H p = some (.dK kvs)) (h : Q (.bl (if neg then !(valV kvs (.inl t)).isSome else (valV kvs (.inl t)).isSome)) H) : iD neg (.int t) (.ref p) H Q := ⟨p, _, rfl, DGet.k (k := .inl t) e, h⟩
theorem k_dictD (e : H p = some (.dK kvs)) (h : ∀ q H', H q = none → Same H H' → H' q = some (.dK kvs) → Q (.ref q) H') : rDictD [.ref p] H Q := ⟨p, kvs, rfl, .inl e, fun q nq => h q _ nq (same_new nq) upd_same⟩
theorem k_lenD (e : H p = some (.dK kvs)) (h : Q (.int kvs.length) H) : rLenD [.ref p] H Q := ⟨p, kvs, rfl, e, h⟩
end
theorem u65 {k : Nat} {A : Around} (r : Room k A) : A.units + 65 < cLine := by have := r.un; omega
end Cm

namespace HT
open PySem PySem.Spec PyProof.Rows
section
variable {prog : Program} {w : World} {A : Around} {E : Value → Shared → Prop} {s : Shared}
/-! ### t[::-1] -/
theorem sliceApplied_rev {sl : Addr} {vs : Value} {n : Nat} {Q : Int × Int × Nat → Shared → Prop} (hs : s.heap.IsSliceOf sl .none .none vs) (ps : IsPart vs (some (-1)))
    (h : Q ((n : Int) - 1, -1, n) s) : wpAny (model prog w) A (Builtin.Slice.sliceApplied (.ref sl) (pure (n : Int))) Q E s := by
  obtain ⟨os, hos, hcs, hds⟩ := id hs
  unfold Builtin.Slice.sliceApplied Builtin.Slice.sliceFields
  refine wpAny_bind (wpAny_bind (wpAny_field hos hds (x := .none) rfl (wpAny_bind (wpAny_field hos hds (x := .none) rfl (wpAny_bind (wpAny_field hos hds (x := vs) rfl (wpAny_pure ?_)))))))
  refine wpAny_bind (slicePart_ ps ?_)
  show wpAny _ _ (if ((-1 : Int) == 0) = true then _ else _) _ _ s
  rw [if_neg (by decide)]
  refine wpAny_bind (slicePart_none (wpAny_bind (slicePart_none (wpAny_bind (wpAny_pure ?_)))))
  show wpAny _ _ (match Builtin.Slice.sliceAdjust none none (-1) (n : Int) with | (lo, hi) => pure (lo, (-1 : Int), Builtin.Slice.slicePlaces lo hi (-1))) _ _ s
  rw [show Builtin.Slice.sliceAdjust none none (-1) (n : Int) = ((n : Int) - 1, -1) by unfold Builtin.Slice.sliceAdjust; simp]
  show wpAny _ _ (pure ((n : Int) - 1, (-1 : Int), Builtin.Slice.slicePlaces ((n : Int) - 1) (-1) (-1))) _ _ s
  have e : Builtin.Slice.slicePlaces ((n : Int) - 1) (-1) (-1) = n := by
    unfold Builtin.Slice.slicePlaces
    rw [if_neg (by decide)]
    split
    · rw [show (- -1 : Int) = 1 by decide, Int.ediv_one]; omega
    · omega
  rw [e]
  exact wpAny_pure h
theorem fm_congr {α β : Type} {f g : α → Option β} : ∀ l : List α, (∀ x ∈ l, f x = g x) → l.filterMap f = l.filterMap g
  | [], _ => rfl
  | a :: r, h => by
    rw [List.filterMap_cons, List.filterMap_cons, h a List.mem_cons_self, fm_congr r fun x hx => h x (List.mem_cons_of_mem _ hx)]
theorem pick_rev (xs : Array Value) : ((List.range xs.size).filterMap fun (m : Nat) => xs[((xs.size : Int) - 1 + (m : Int) * -1).toNat]?).toArray = xs.toList.reverse.toArray := by
  congr 1
  refine List.ext_getElem? fun i => ?_
  have e : (List.range xs.size).filterMap (fun (m : Nat) => xs[((xs.size : Int) - 1 + (m : Int) * -1).toNat]?) = (List.range xs.size).map fun m => xs.toList.getD (xs.size - 1 - m) .none := by
    rw [← List.filterMap_eq_map]
    refine fm_congr _ fun m hm => ?_
    have hm' := List.mem_range.mp hm
    have : ((xs.size : Int) - 1 + (m : Int) * -1).toNat = xs.size - 1 - m := by omega
    rw [this]
    have hl : xs.size - 1 - m < xs.size := by omega
    simp [List.getD_eq_getElem?_getD, hl]
  rw [e, List.getElem?_map]
  by_cases c : i < xs.size
  · rw [List.getElem?_range c, List.getElem?_reverse (by simpa using c)]
    have hl : xs.size - 1 - i < xs.size := by omega
    simp [List.getD_eq_getElem?_getD, hl]
  · rw [List.getElem?_eq_none (by simpa using c), List.getElem?_eq_none (by simpa using c)]
    rfl
theorem getItem_tuple_rev {t sl : Addr} {items : Array Value} {vs : Value} {Q : Value → Shared → Prop} (ht : IsTup s.heap t items) (hs : s.heap.IsSliceOf sl .none .none vs) (ps : IsPart vs (some (-1)))
    (h : Q (.ref s.heap.objs.size) { s with heap := s.heap.push { cls := .type "tuple", data := .seq items.toList.reverse.toArray } })
    (hsz : items.size ≤ sizeLine) : wpAny (model prog w) A (getItem (.ref t) (.ref sl)) Q E s := by
  have htake : sizeOk (.seq items.toList.reverse.toArray) := by
    show items.toList.reverse.toArray.size ≤ sizeLine
    rw [List.size_toArray, List.length_reverse, Array.length_toList]
    exact hsz
  obtain ⟨os, hos, hcs, hds⟩ := id hs
  have hTs : s.TypeIs (.ref sl) "slice" := ⟨os, hos, hcs⟩
  unfold getItem
  try with_reducible refine wpAny_holding ?_
  first | refine wpAny_bind (wpAny_pure ?_) | skip
  refine wpAny_bind (wpAny_sequenceKey ht.typeIs (by decide) ?_)
  refine wpAny_bind (wpAny_callSpecial?_slot (name := Str.ofString "__getitem__") ht.typeIs PyProof.Rows.slot_tuple_getitem
    (wpAny_call_entry PyProof.Rows.slot_tuple_getitem ht.typeIs entry_tuple_getitem ?_ (args_tuple_getitem _ _)))
  show wpAny _ _ (Builtin.Tuple.tupleItemsOf (.ref t) >>= _) _ _ s
  refine wpAny_bind (tupleItemsOf_ ht ?_)
  refine wpAny_bind (wpAny_typeOf hTs ?_)
  rw [if_pos (by decide)]
  refine wpAny_bind (sliceApplied_rev hs ps ?_)
  have hno : ¬ ((((items.size : Int) - 1) == 0 && (-1 : Int) == 1 && items.size == items.size) = true) := by
    intro q
    rw [Bool.and_eq_true, Bool.and_eq_true] at q
    exact absurd q.1.2 (by decide)
  show wpAny _ _ (if (((items.size : Int) - 1) == 0 && (-1 : Int) == 1 && items.size == items.size) = true then _ else _) _ _ s
  rw [if_neg hno, pick_rev]
  first
    | exact wpAny_bind (m := Builtin.Tuple.tupleExact _) (wpAny_newObj_type (wpAny_pure ⟨_, rfl, wpAny_pure h⟩) htake)
    | exact wpAny_bind (m := Builtin.Tuple.tupleExact _) (wpAny_newObj_type (wpAny_bind (wpAny_pure (wpAny_pure ⟨_, rfl, wpAny_pure h⟩))) htake)
/-! ### list(reversed(list)) -/
end
end HT
namespace HT
open PySem PySem.Spec PyProof.Rows L2 RT
section
variable {prog : Program} {w : World} {A : Around} {E : Value → Shared → Prop} {s : Shared}
theorem extend_rev {R : Result → Shared → Prop} {it l S : Addr} {items : Array Value} {c0 : Nat} (hh : A.handled = none) (res : Value) (hit : s.heap.IsRevIter it l ((items.size : Int) - 1)) (hl : s.heap.IsList l items) (hne : l ≠ it) (hn : items.size ≤ sizeLine) (hSi : S ≠ it) (hSl : S ≠ l)
    (hS : s.heap.get? S = some { cls := .type "list", data := .seq #[] c0 })
    (hR : ∀ (h' : Heap) (tk : Nat) (acc : Array Value) (c' : Nat), (∀ b o, b ≠ it → b ≠ S → s.heap.get? b = some o → h'.get? b = some o) → h'.get? S = some { cls := .type "list", dict := none, data := .seq acc c', slots := #[] } → ItemsOf (fun i v => items[items.size - 1 - i]? = some v) acc items.size → R (.ok (.ret res)) { s with heap := h', toks := tk }) :
    wpAny (model prog w) A.in1 (Builtin.List.listExtendWith (.ref S) (.ref it) res)
      (fun fin s' => match fin with | .done f => R (.ok f) s' | .again c' => c'.quiet = true ∧ codeAny (model prog w) A c' R s') (fun e s' => R (.error e) s') s := by
  have W := (Walks.listRev (prog := prog) (w := w) (A := A.in1) hh it l hne items).toS
  have hSf : S ∉ [it, l] := by simp only [List.mem_cons, List.not_mem_nil, or_false, not_or]; exact ⟨hSi, hSl⟩
  have hT : s.TypeIs (.ref it) "list_reverseiterator" := hit.typeIs
  have h1 : Builtin.List.listSameRef (.ref S) (.ref it) = false := by simp [Builtin.List.listSameRef, hSi]
  unfold Builtin.List.listExtendWith
  refine wpAny_bind (wpAny_typeOf hT ?_)
  rw [if_neg (by rw [h1]; decide)]
  refine wpAny_bind (wpAny_pyIter_revIter hit ?_)
  refine wpAny_bind (wpAny_holding ?_)
  unfold Builtin.List.listLengthHint
  refine wpAny_bind (wpAny_specialOf hT nolen_lri ?_)
  show wpAny _ A.in1 (specialOf (Value.ref it) (Str.ofString "__length_hint__") >>= _) _ _ _
  refine wpAny_bind (wpAny_specialOf hT hint_lri ?_)
  generalize hid : ("list_reverseiterator.__length_hint__" : String) = id0
  wp_delta
  rw [show splitId id0 = some ("list_reverseiterator", "__length_hint__") from by subst hid; decide +kernel]
  subst hid
  refine wpAny_bind (wpAny_isInstance (b := true) hT (by rw [isSubtype_type]; kernel_rfl) ?_)
  refine wpAny_pure ?_
  rw [if_neg (by decide)]
  have e0 : ((items.size : Nat) : Int) - 1 - ((0 : Nat) : Int) = (items.size : Int) - 1 := by omega
  refine wpAny_pure ⟨plainId_quiet F.plain_extend_loop _, codeAny_extend_loopS W hn _ hSf res items.size 0 _ _ _ rfl (Nat.zero_le _) ⟨Nat.zero_le _, by rw [e0]; exact hit, hl⟩ hS (ItemsOf.nil _) fun s' acc' c' hm hS' hacc => ?_⟩
  rw [Moved.eq_with hm]
  refine hR s'.heap s'.toks acc' c' (fun b o hb hb2 e => hm.heap b o (fun hmem => ?_) e) hS' hacc
  rcases List.mem_cons.mp hmem with e' | hmem
  · exact hb2 e'
  · exact hb (List.mem_singleton.mp hmem)
theorem list_init_rev {R : Result → Shared → Prop} {it l S : Addr} {items : Array Value} (hh : A.handled = none) (hit : s.heap.IsRevIter it l ((items.size : Int) - 1)) (hl : s.heap.IsList l items) (hne : l ≠ it) (hn : items.size ≤ sizeLine) (hSi : S ≠ it) (hSl : S ≠ l)
    (hS : s.heap.get? S = some { cls := .type "list", data := .seq #[] })
    (hR : ∀ (h' : Heap) (tk : Nat) (acc : Array Value) (c' : Nat), (∀ b o, b ≠ it → b ≠ S → s.heap.get? b = some o → h'.get? b = some o) → h'.get? S = some { cls := .type "list", dict := none, data := .seq acc c', slots := #[] } → ItemsOf (fun i v => items[items.size - 1 - i]? = some v) acc items.size → R (.ok (.ret .none)) { s with heap := h', toks := tk }) :
    wpAny (model prog w) A.in1 (Builtin.«list.__init__» ⟨[.ref S, .ref it], []⟩)
      (fun fin s' => match fin with | .done f => R (.ok f) s' | .again c' => c'.quiet = true ∧ codeAny (model prog w) A c' R s') (fun e s' => R (.error e) s') s := by
  show wpAny _ A.in1 (do let old ← Builtin.List.listItems (.ref S); Builtin.List.listUpdate (.ref S) (fun _ => #[]); letGo old.toList.reverse; Builtin.List.listExtendWith (.ref S) (.ref it) .none) _ _ s
  refine wpAny_bind ?_
  unfold Builtin.List.listItems
  refine wpAny_bind (wpAny_seqItems hS rfl (wpAny_pure ?_))
  show wpAny _ A.in1 (updateSeq S (fun _ => #[]) >>= fun _ => letGo (#[] : Array Value).toList.reverse >>= fun _ => Builtin.List.listExtendWith (.ref S) (.ref it) .none) _ _ s
  refine wpAny_bind (wpAny_updateSeq hS rfl ?_)
  have hS2 := Heap.get?_update_self (Obj.mapSeq (fun _ => (#[] : Array Value))) hS rfl
  have oth : ∀ b o, b ≠ S → s.heap.get? b = some o → (s.heap.update S (Obj.mapSeq (fun _ => (#[] : Array Value)))).get? b = some o :=
    fun b o hb e => (Heap.get?_update_other _ _ (Ne.symm hb)).trans e
  refine wpAny_bind (wpAny_letGo ?_)
  have hl2 : (s.heap.update S (Obj.mapSeq (fun _ => (#[] : Array Value)))).IsList l items := by
    obtain ⟨o, e, r⟩ := hl
    exact ⟨o, oth _ _ (Ne.symm hSl) e, r⟩
  refine extend_rev hh .none (hit.at fun o e => oth _ _ (Ne.symm hSi) e) hl2 hne hn hSi hSl hS2 fun h' tk acc' c' hk hS' hacc => ?_
  exact hR h' tk acc' c' (fun b o hb hb2 e => hk b o hb hb2 (oth b o hb2 e)) hS' hacc
theorem call_list_rev {it l : Addr} {items : Array Value} {Q : Value → Shared → Prop} (hh : A.handled = none) (hit : s.heap.IsRevIter it l ((items.size : Int) - 1)) (hl : s.heap.IsList l items) (hne : l ≠ it) (hn : items.size ≤ sizeLine)
    (hQ : ∀ (h' : Heap) (tk : Nat) (acc : Array Value) (c' : Nat), (∀ b o, b ≠ it → s.heap.get? b = some o → h'.get? b = some o) → h'.get? s.heap.objs.size = some { cls := .type "list", dict := none, data := .seq acc c', slots := #[] } → ItemsOf (fun i v => items[items.size - 1 - i]? = some v) acc items.size →
      Q (.ref s.heap.objs.size) { s with heap := h', toks := tk }) :
    wpAny (model prog w) A (call (.type "list") [.ref it]) Q E s := by
  obtain ⟨oi, hoi, _⟩ := id hit
  obtain ⟨ol, hol, _⟩ := id hl
  have hSi : s.heap.objs.size ≠ it := Nat.ne_of_gt (Heap.lt_size hoi)
  have hSl : s.heap.objs.size ≠ l := Nat.ne_of_gt (Heap.lt_size hol)
  refine callType_codes (Q₁ := fun obj s₁ => obj = .ref s.heap.objs.size ∧ s₁ = { s with heap := s.heap.push { cls := .type "list", data := .seq #[] } }) F.called_list (F.typeCall_list_1 _) F.entry_list_init
    (code_list_new _ ⟨rfl, rfl⟩) fun obj s₁ h₁ => ?_
  obtain ⟨rfl, rfl⟩ := h₁
  have hS : (s.heap.push { cls := .type "list", data := .seq #[] }).get? s.heap.objs.size = some { cls := .type "list", data := .seq #[] } := Heap.get?_push_size _ rfl
  refine ⟨⟨_, hS, rfl⟩, F.args_list_init_2 _ _, list_init_rev (A := A.in1) hh (hit.at fun o e => Heap.get?_push_of_some _ e) (hl.push _) hne hn hSi hSl hS fun h' tk acc' c' hk hS' hacc => ?_⟩
  exact ⟨rfl, hQ h' tk acc' c' (fun b o hb e => hk b o hb (Nat.ne_of_lt (Heap.lt_size e)) (Heap.get?_push_of_some _ e)) hS' hacc⟩
end
end HT
namespace Cm
open PySem PySem.Spec PyProof.Rows L2 RT
section
variable {X : Cx}
def rRevT (K : PySem.W.Frag) (x : V) (H : Hp) (Q : VK) : Prop := ∃ a xs, x = .ref a ∧ SqT K H a xs ∧ ∀ p, H p = none → Q (.ref p) (upd H p (.tup xs.reverse))
def tRevT (K : PySem.W.Frag) (te : TE) : TE := fun σ H Q => te σ H fun x H1 => rRevT K x H1 Q
theorem pe_revT {e : Expr} {te : TE} {k : Nat} {p1 p2 p3 pos : Pos} (he : PE X e te) : PE X (.Subscript e (.Slice none none (some (.UnaryOp .USub (.Constant (.int 1) k p1) p2)) p3) pos) (tRevT X.K te) := by
  refine ⟨fun pins s σ H Q I h => ?_⟩
  refine Subscript_ (thn (he.run pins s σ H _ I h) fun v s1 ⟨x, H1, I1, r1, q1⟩ => ?_)
  obtain ⟨a, xs, ex, hx, q⟩ := q1
  subst ex
  cases r1
  have hst : PO X (some (.UnaryOp .USub (.Constant (.int 1) k p1) p2)) (tPart (tUn (rU fun i => .int (-i)) (tC (.int 1)))) := po_some (pe_un un_neg pe_int)
  refine wpAny_Slice (thn (po_none.run pins s1 σ H1 (fun o H2 => o = none ∧ H2 = H1) I1 ⟨rfl, rfl⟩) fun vl s2 ⟨l, H2, I2, pl, el, e2⟩ => ?_)
  subst el e2
  refine thn (po_none.run pins s2 σ H2 (fun o H3 => o = none ∧ H3 = H2) I2 ⟨rfl, rfl⟩) fun vu s3 ⟨u, H3, I3, pu, eu, e3⟩ => ?_
  subst eu e3
  refine thn (hst.run pins s3 σ H3 (fun o H4 => o = some (-1) ∧ H4 = H3) I3 ⟨1, rfl, -1, rfl, rfl, rfl⟩) fun vs s4 ⟨o, H4, I4, ps, eo, e4⟩ => ?_
  subst eo e4
  have I5 : Inv X pins σ H4 { s4 with heap := s4.heap.push { cls := .type "slice", data := .fields #[vl, vu, vs] } } := I4.kept (t' := s4.toks) fun b ob q => Heap.get?_push_of_some _ q
  obtain ⟨its, r, ht, hz⟩ := I5.tuple hx
  have hlen := r.length
  cases pl
  cases pu
  show wpAny (model X.prog X.w) X.A (subscriptTail e (.Slice none none (some (.UnaryOp .USub (.Constant (.int 1) k p1) p2)) p3) (.ref a) (.ref s4.heap.objs.size)) (EP X pins σ Q) X.xe { s4 with heap := s4.heap.push { cls := .type "slice", data := .fields #[.none, .none, vs] } }
  refine tail_any (ops := [.ref a, .ref s4.heap.objs.size]) ht.typeIs (PyProof.Rows.slot_tuple_getitem.lookup) ?_ (by with_unfolding_all rfl)
  refine HT.getItem_tuple_rev ht (Heap.IsSliceOf.new _ .none .none vs) ps ?_ (by rw [List.size_toArray]; omega)
  refine ⟨.ref _, _, I5.laid (t' := s4.toks) (o := .tup xs.reverse) (fun b ob q => Heap.get?_push_of_some _ q) (Nat.le_refl _) ?_, rfl, q _ (I5.hok.fresh (Nat.le_refl _))⟩
  exact ⟨by rw [List.length_reverse]; exact hz, _, r.reverse, IsTup.new _ _⟩
end
instance {K : PySem.W.Frag} {σ : L2.St} {H : Hp} {Q : VK} {te : TE} : Stp (tRevT K te σ H Q) (te σ H fun x H1 => rRevT K x H1 Q) := ⟨id⟩
theorem k_revT {K : PySem.W.Frag} {H : Hp} {Q : VK} {a : Addr} {xs : List V} (hs : SqT K H a xs) (h : ∀ p H', H p = none → Same H H' → H' p = some (.tup xs.reverse) → Q (.ref p) H') : rRevT K (.ref a) H Q := ⟨a, xs, rfl, hs, fun p np => h p _ np (same_new np) upd_same⟩
/-! ### is, is not of truths -/
def xIsB : R2 := rIsB
def xNotB : R2 := rNotB
instance {a b : Bool} {H : Hp} {Q : VK} : Stp (xIsB (.bl a) (.bl b) H Q) (Q (.bl (decide (a = b))) H) := ⟨fun h => ⟨a, b, rfl, rfl, h⟩⟩
instance {a b : Bool} {H : Hp} {Q : VK} : Stp (xNotB (.bl a) (.bl b) H Q) (Q (.bl (!decide (a = b))) H) := ⟨fun h => ⟨a, b, rfl, rfl, h⟩⟩
/-! ### tuple(xs) of a list -/
def rTupOf (K : PySem.W.Frag) : List V → Hp → VK → Prop := fun xs H Q => ∃ p ys, xs = [.ref p] ∧ ((SqL K H p ys ∧ ∀ l, H l = none → Q (.ref l) (upd H l (.tup ys))) ∨ (SqT K H p ys ∧ Q (.ref p) H))
theorem q_tupOf {X : Cx} : CallR X (.type "tuple") (rTupOf X.K) := call_tuple_of
theorem k_tupOf {K : PySem.W.Frag} {H : Hp} {Q : VK} {p : Addr} {ys : List V} (hs : SqL K H p ys) (h : ∀ l H', H l = none → Same H H' → H' l = some (.tup ys) → Q (.ref l) H') : rTupOf K [.ref p] H Q := ⟨p, ys, rfl, .inl ⟨hs, fun l nl => h l _ nl (same_new nl) upd_same⟩⟩
/-! ### [d[k] for k in d] -/
theorem lc_vals {σ : L2.St} {H : Hp} {Q : VK} {p : Addr} {kvs : List (Key × V)} {i l : Nat} (hd : H p = some (.dK kvs)) (hv0 : (wipe σ [l])[i]? = some (some (.ref p)) ∧ σ[i]? = some (some (.ref p))) (hv : ∀ x : V, ((wipe σ [l]).set l (some x))[i]? = some (some (.ref p))) (hl : ∀ x : V, ((wipe σ [l]).set l (some x))[l]? = some (some x)) (hwp : ∀ x : V, wipe ((wipe σ [l]).set l (some x)) [l] = wipe σ [l])
    (hn : kvs.length ≤ 50000) (nd : ∀ kv ∈ kvs, valV kvs kv.1 = some kv.2) (h : ∀ D H', H D = none → Same H H' → H' D = some (.lst (kvs.map (·.2))) → Q (.ref D) H') :
    tLockE (tLc (iKeys (tVar i)) (gName l) tYes (tDGet (tVar i) (tVar l)) [l]) σ H Q := by
  refine ⟨p, .dK kvs, hd, trivial, fun od => ?_⟩
  refine ⟨_, hv0.2, p, od, rfl, .inl ⟨kvs, upd_same, fun D nD => ?_⟩⟩
  have Dp : D ≠ p := fun z => by rw [z, upd_same] at nD; cases nD
  have nD' : H D = none := by rw [upd_ne Dp] at nD; exact nD
  refine lc_it walk_keys (fun j H' => H' = upd (upd H p (.frz od (.dK kvs))) D (.lst ((kvs.take j).map (·.2)))) (by simp) (fun j H' _ e => by rw [e, upd_ne (fun z => Dp z.symm), upd_same]) ?_ ?_
  · rintro j x H1 H2 hj rfl ⟨rfl, k, v, hk, rfl⟩
    refine ⟨hwp _, ?_⟩
    refine k_yes (iteT ?_)
    refine ⟨_, hv _, _, hl _, p, v, rfl, .inl ⟨kvs, k, .inr ⟨od, by rw [upd_ne (fun z => Dp z.symm), upd_same]⟩, rfl, (nd _ (List.mem_of_getElem? hk)).symm⟩, _, upd_same, szl (by rw [List.length_map, List.length_take]; omega), ?_⟩
    rw [upd_upd, List.take_add_one, hk, List.map_append]
    rfl
  · rintro H1 rfl
    refine ⟨by rw [upd_ne (fun z => Dp z.symm), upd_same], ?_⟩
    refine h D _ nD' (fun b o hb => ?_) ?_
    · by_cases c : b = p
      · rw [c, upd_same, ← hd, ← c, hb]
      · have bD : b ≠ D := fun z => by rw [z, nD'] at hb; cases hb
        rw [upd_ne c, upd_ne bD, upd_ne c]; exact hb
    · rw [upd_ne Dp, upd_same, List.take_length]
/-! ### d.get(k) -/
def gD1N (a : Addr) (y : V) (H : Hp) (Q : VK) : Prop := ∃ o, DGet H a y o ∧ Q (o.getD .non) H
instance {σ : L2.St} {H : Hp} {Q : VK} {td ty : TE} : Stp (tDGet1 td ty σ H Q) (td σ H fun x H1 => aD x H1 fun a => ty σ H1 fun y H2 => gD1N a y H2 Q) := ⟨id⟩
theorem k_gD1N {H : Hp} {Q : VK} {p : Addr} {kvs : List (Key × V)} {t : Int} (e : H p = some (.dK kvs)) (h : Q ((valV kvs (.inl t)).getD .non) H) : gD1N p (.int t) H Q := ⟨_, DGet.k (k := .inl t) e, h⟩
/-! ### list(reversed(xs)) of a list -/
section
variable {X : Cx}
def rLRv (K : PySem.W.Frag) (x : V) (H : Hp) (Q : VK) : Prop := ∃ a xs, x = .ref a ∧ SqL K H a xs ∧ ∀ p, H p = none → Q (.ref p) (upd H p (.lst xs.reverse))
def tLRv (K : PySem.W.Frag) (te : TE) : TE := fun σ H Q => te σ H fun x H1 => rLRv K x H1 Q
theorem pe_lRv {e : Expr} {te : TE} {p p2 pos pos2 : Pos} (hc : X.calm = true) (hg : Gl X "list") (hm : X.mg "list" = none) (hg2 : Gl X "reversed") (hm2 : X.mg "reversed" = none) (he : PE X e te)
    (hs : starEach [e] X.env = (false, eval e X.env) :: starEach [] X.env := by rfl)
    (hs2 : starEach [.Call (.Name "reversed" p2) [e] [] pos2] X.env = (false, eval (.Call (.Name "reversed" p2) [e] [] pos2) X.env) :: starEach [] X.env := by rfl) :
    PE X (.Call (.Name "list" p) [.Call (.Name "reversed" p2) [e] [] pos2] [] pos) (tLRv X.K te) := by
  refine ⟨fun pins s σ H Q I h => ?_⟩
  refine Call_ (ld_blt I hg hm boot_list (PyProof.Rows.callWith_type1 (args_cons (Call_ (ld_blt I hg2 hm2 PyProof.Rows.boot_reversed (PyProof.Rows.callWith_type1 (args_cons (thn (he.run pins s σ H _ I h) fun u s1 ⟨v, H1, I1, r1, q1⟩ => args_nil ?_) hs) hs rfl))) hs2) hs2 rfl))
  obtain ⟨a, xs, ev, hq, q⟩ := q1
  subst ev
  obtain rfl : u = Value.ref a := r1
  obtain ⟨its, rv, p', hz⟩ := I1.list hq
  refine call_reversed_list p'.isList (args_nil ?_)
  have k0 : ∀ b o, s1.heap.get? b = some o → (s1.heap.push (revObj a ((its.toArray.size : Int) - 1))).get? b = some o := fun b o e => Heap.get?_push_of_some _ e
  have I2 : Inv X pins σ H1 { s1 with heap := s1.heap.push (revObj a ((its.toArray.size : Int) - 1)) } := I1.kept (t' := s1.toks) k0
  obtain ⟨f0, f1, f2, f3, f4, f5⟩ := I1.fpOk (H' := H1) (b := s1.heap.objs.size) (Nat.le_refl _) (I1.hok.fresh (Nat.le_refl _))
  have hl := p'.isList
  obtain ⟨ol, hol, _⟩ := id hl
  have hne : a ≠ s1.heap.objs.size := Nat.ne_of_lt (Heap.lt_size hol)
  have hn : its.toArray.size ≤ sizeLine := by rw [List.size_toArray, ← rv.length]; exact hz
  refine HT.call_list_rev (s := { s1 with heap := s1.heap.push (revObj a ((its.toArray.size : Int) - 1)) }) (I1.ok.hd hc) ⟨_, Heap.get?_push_size _ rfl, rfl, rfl⟩ (hl.push _) hne hn fun h' tk acc c' hk hS' hi => ?_
  refine ⟨.ref _, upd H1 _ (.lst xs.reverse), I2.turnedNew (t' := tk) (ch := [s1.heap.objs.size]) (fun b o hb e => hk b o (fun z => hb (by rw [z]; exact List.mem_singleton.mpr rfl)) e) (fun b hb => by rw [List.mem_singleton.mp hb]; exact ⟨f0, f1, f2, f3, f4, f5⟩) (Nat.le_refl _) (show ObjOk X.prog X.w _ _ _ (.lst xs.reverse) from ⟨by rw [List.length_reverse]; exact hz, acc.toList, c', vals_rev rv hi, by rw [Array.toArray_toList]; exact hS'⟩), rfl, q _ (I2.hok.fresh (Nat.le_refl _))⟩
instance {K : PySem.W.Frag} {σ : L2.St} {H : Hp} {Q : VK} {te : TE} : Stp (tLRv K te σ H Q) (te σ H fun x H1 => rLRv K x H1 Q) := ⟨id⟩
theorem k_lRv {K : PySem.W.Frag} {H : Hp} {Q : VK} {a : Addr} {xs : List V} (hs : SqL K H a xs) (h : ∀ p H', H p = none → Same H H' → H' p = some (.lst xs.reverse) → Q (.ref p) H') : rLRv K (.ref a) H Q := ⟨a, xs, rfl, hs, fun p np => h p _ np (same_new np) upd_same⟩
end
/-! ### xs + ys of any two lists -/
section
variable {X : Cx}
def rCatS (K : PySem.W.Frag) : R2 := fun x y H Q => ∃ l b xs zs, x = .ref l ∧ y = .ref b ∧ SqL K H l xs ∧ SqL K H b zs ∧ xs.length + zs.length ≤ sizeLine ∧ ∀ p, H p = none → Q (.ref p) (upd H p (.lst (xs ++ zs)))
theorem op_catS : OpR X (binaryOp .Add) (rCatS X.K) := by
  intro pins s σ H x y v u Q I rx ry h
  obtain ⟨l, b, xs, zs, rfl, rfl, hH, hB, hz, q⟩ := h
  cases rx
  cases ry
  obtain ⟨its, r, p1, _⟩ := I.list hH
  obtain ⟨its2, r2, p2, _⟩ := I.list hB
  have l1 := r.length
  have l2 := r2.length
  obtain ⟨⟨cls, dd, data, sl⟩, ho, hc, n, hd⟩ := p1.isList
  obtain ⟨⟨cls2, dd2, data2, sl2⟩, ho2, hc2, n2, hd2⟩ := p2.isList
  simp only at hc hd hc2 hd2
  subst hc hd hc2 hd2
  have e : its.toArray ++ its2.toArray = (its ++ its2).toArray := by simp
  refine concat_meets ⟨_, ho, rfl⟩ ⟨_, ho2, rfl⟩ noFill_list_add seq_list_add PySem.F.slot_list_add PySem.F.entry_list_add (PySem.F.args_list_add_2 _ _) (list_addW l b its.toArray its2.toArray n n2 dd dd2 sl sl2 (by simp only [List.size_toArray]; omega)) ⟨ho, ho2, ?_⟩
  rw [e]
  exact ⟨.ref _, _, I.lnew (t' := s.toks) (r.append r2) (by rw [List.length_append]; exact hz), rfl, q _ I.fresh⟩
theorem k_catS {K : PySem.W.Frag} {H : Hp} {Q : VK} {l b : Addr} {xs zs : List V} (hl : SqL K H l xs) (hb : SqL K H b zs) (hz : xs.length + zs.length ≤ 100000) (h : ∀ p H', H p = none → Same H H' → H' p = some (.lst (xs ++ zs)) → Q (.ref p) H') : rCatS K (.ref l) (.ref b) H Q := ⟨l, b, xs, zs, rfl, rfl, hl, hb, sz hz, fun p np => h p _ np (same_new np) upd_same⟩
end
/-! ### xs.count(k) of a list of tuples and whole numbers -/
def isK (k : Int) : V → Bool
  | .int i => decide (i = k)
  | _ => false
def isKU (k : Int) : Value → Bool
  | .int i _ => decide (i = k)
  | _ => false
theorem isK_rel {k : Int} {v : V} {u : Value} (r : RelV v u) (h : (∃ p, v = .ref p) ∨ ∃ i, v = .int i) : isKU k u = isK k v := by
  rcases h with ⟨p, rfl⟩ | ⟨i, rfl⟩
  · cases r; rfl
  · obtain ⟨t, rfl⟩ := r; rfl
theorem isK_cnt {k : Int} : ∀ {vs : List V} {us : List Value}, Vals vs us → (∀ v ∈ vs, (∃ p, v = .ref p) ∨ ∃ i, v = .int i) → us.countP (isKU k) = vs.countP (isK k)
  | _, _, .nil, _ => rfl
  | v :: vs, u :: us, .cons r rs, h => by
    rw [List.countP_cons, List.countP_cons, isK_rel r (h v List.mem_cons_self), isK_cnt rs fun x hx => h x (List.mem_cons_of_mem _ hx)]
def rCntD (K : PySem.W.Frag) : V → List V → Hp → VK → Prop := fun x xs H Q => ∃ (a : Addr) (ys : List V) (ds : List PyData) (k : Int), x = V.ref a ∧ xs = [.int k] ∧ SqL K H a ys ∧ DpAll K H ys ds ∧ PyData.canLayAll0 ds = true ∧ (∀ d ∈ ds, (∃ es, d = .tuple es) ∨ ∃ i, d = .int i) ∧ Q (.int (ys.countP (isK k) : Nat)) H
theorem lay_mem : ∀ {ds : List PyData}, PyData.canLayAll0 ds = true → ∀ d ∈ ds, d.canLay0 = true
  | [], _, d, h => by cases h
  | a :: r, h, d, hd => by
    have h' : (a.canLay0 && PyData.canLayAll0 r) = true := h
    rw [Bool.and_eq_true] at h'
    rcases List.mem_cons.mp hd with rfl | hd
    · exact h'.1
    · exact lay_mem h'.2 d hd
theorem vals_data {K : PySem.W.Frag} {H : Hp} : ∀ {vs : List V} {us : List Value} {ds : List PyData}, Vals vs us → DpAll K H vs ds → ∀ u ∈ us, ∃ v d, RelV v u ∧ Dp K H v d ∧ d ∈ ds
  | _, _, _, .nil, _, u, hu => by cases hu
  | _, _, _, .cons r rs, .cons h hs, u, hu => by
    rcases List.mem_cons.mp hu with rfl | hu
    · exact ⟨_, _, r, h, List.mem_cons_self⟩
    · obtain ⟨v, d, h1, h2, h3⟩ := vals_data rs hs u hu
      exact ⟨v, d, h1, h2, List.mem_cons_of_mem _ h3⟩
theorem data_kind {K : PySem.W.Frag} {H : Hp} {v : V} {d : PyData} (h : Dp K H v d) (k : (∃ es, d = .tuple es) ∨ ∃ i, d = .int i) : (∃ p, v = .ref p) ∨ ∃ i, v = .int i := by
  rcases k with ⟨es, rfl⟩ | ⟨i, rfl⟩
  · obtain ⟨a, _, e, _⟩ := dp_tup h; exact .inl ⟨a, e⟩
  · exact .inr ⟨i, dp_int h⟩
theorem mt_lcountD {X : Cx} (hu : X.A.units + 64 < cLine) : MtR X "list.count" (rCntD X.K) := by
  intro pins s σ H x xs v us Q I rx rxs h
  obtain ⟨a, ys, ds, k, rfl, rfl, hs, dys, lay, kd, q⟩ := h
  cases rx
  cases rxs with
  | cons ry rt =>
    rename_i uy ut
    cases rt
    obtain ⟨t, rfl⟩ := ry
    obtain ⟨its, rv, ⟨⟨cls, dd, data, sl⟩, n, ho, hc, hdn, hd⟩, hlen⟩ := I.list hs
    simp only at hc hd
    subst hc hd
    refine call_meets PySem.F.slot_list_count ⟨_, ho, rfl⟩ PySem.F.entry_list_count (PySem.F.args_list_count_2 _ _)
      (SeqAt.list_countAt a its.toArray n dd sl (.int k t) (isKU k)) ⟨ho, fun u' hu' => ?_, ?_⟩
    · obtain ⟨w, d, r1, r2, r3⟩ := vals_data rv dys u' (by simpa using hu')
      obtain ⟨as, rd⟩ := Dp.reads I d w u' r2 r1
      have eq := SeqAt.eqAt_reads d (.int k) X.A.in1 s u' (.int k t) as _ rd (Reads.int k t) (lay_mem lay d r3) rfl (by
        have : min d.depth (PyData.int k).depth ≤ 0 := Nat.min_le_right _ _
        have e : X.A.in1.units = X.A.units + 1 := rfl
        rw [e]; omega)
      have e : PyData.eqv d (.int k) = isKU k u' := by
        rw [isK_rel r1 (data_kind r2 (kd d r3))]
        rcases kd d r3 with ⟨es, rfl⟩ | ⟨i, rfl⟩
        · obtain ⟨p, _, rfl, _⟩ := dp_tup r2; rfl
        · cases dp_int r2
          show (i == k) = decide (i = k)
          by_cases c : i = k
          · rw [c, decide_eq_true rfl]; simp
          · rw [decide_eq_false c]; simpa using c
      rw [e] at eq
      exact eq
    · have ec : its.toArray.toList.countP (isKU k) = ys.countP (isK k) := isK_cnt rv fun v hv => by
        obtain ⟨i, hi, e⟩ := List.mem_iff_getElem.mp hv
        obtain ⟨d, hd, dd⟩ := dpa_get dys (show ys[i]? = some v by rw [List.getElem?_eq_getElem hi, e])
        exact data_kind dd (kd d (List.mem_of_getElem? hd))
      refine ⟨.int (ys.countP (isK k) : Nat), H, I.tok _, ⟨s.toks, ?_⟩, q⟩
      show Value.int ((its.toArray.toList.countP (isKU k) : Nat) : Int) s.toks = Value.int ((ys.countP (isK k) : Nat) : Int) s.toks
      rw [ec]
end Cm
namespace HT
open PySem PySem.Spec PyProof.Rows L2
/-! ### a set of whole numbers made of a list, its table in order -/
/-- the set at S holds just the first i numbers -/
def Grown (w : World) (val : Nat → Int) (S : Addr) (i : Nat) (h : Heap) : Prop := SetR w h S (fun k => (firstMet val i).any (· == k)) (firstMet val i).length
section
variable {prog : Program} {w : World} {A : Around} {E : Value → Shared → Prop} {s : Shared}
theorem Grown.next {val : Nat → Int} {S : Addr} {i : Nat} {tk : Tok} {Q : Bool → Shared → Prop} (g : Grown w val S i s.heap) (room : i + 1 < scanBound) (h : ∀ b h', Heap.SameBut S s.heap h' → Grown w val S (i + 1) h' → Q b { s with heap := h' }) :
    wpAny (model prog w) A (setAddHashed S (.int (val i) tk) ((intKind prog w).hash (val i))) Q E s :=
  setR_add_hashed g (Nat.lt_of_le_of_lt (Nat.add_le_add_right (firstMet_length_le val i) 1) room) fun h' sb r => h _ h' sb (by
    unfold Grown
    rw [firstMet_succ, step_length]
    exact r.congr fun k => step_any _ _ k)
theorem grow_all {I : Addr} {fp wr : List Addr} {G : Array GenState → Array GenState → Prop} {n : Nat} {P : Nat → Value → Prop} {St : Nat → Shared → Prop} {R : Result → Shared → Prop} {S : Addr} {val : Nat → Int} {s0 : Shared}
    (W : WalksS prog w A.in1 I fp wr G n P St) (out : S ∉ fp) (hin : ∀ i v, P i v → ∃ t, v = .int (val i) t) (room : n + 1 < scanBound)
    (fin : ∀ z, Moved (S :: wr) G s0 z → Grown w val S n z.heap → R (.ok (.ret .none)) z) :
    ∀ (left i : Nat) (z : Shared), i + left = n → St i z → Moved (S :: wr) G s0 z → Grown w val S i z.heap → codeAny (model prog w) A (.builtin "set.update.loop" ⟨[.ref S, .ref I], []⟩) R z := by
  have away : S ∉ wr := fun y => out (W.sub _ y)
  have wider : ∀ b ∈ wr, b ∈ S :: wr := fun _ y => List.mem_cons_of_mem _ y
  intro left
  induction left with
  | zero =>
    rintro i z e st mv g
    obtain rfl : i = n := e
    refine codeAny_builtin F.entry_set_update_loop ?_
    rw [Around.under_plainId F.plain_set_update_loop _]
    exact wpAny_bind (W.done z _ _ st fun z' m => wpAny_pure (fin z' (Moved.trans W.gtrans mv (m.mono wider)) (g.at fun o y => m.heap S _ away y)))
  | succ left ih =>
    rintro i z e st mv g
    refine codeAny_builtin F.entry_set_update_loop ?_
    rw [Around.under_plainId F.plain_set_update_loop _]
    refine wpAny_bind (W.item i z _ _ (by omega) st fun v z' pv st' m => ?_)
    obtain ⟨t, rfl⟩ := hin i v pv
    have g' : Grown w val S i z'.heap := g.at fun o y => m.heap S _ away y
    refine wpAny_bind (wpAny_holding (m := setAdd S (.int (val i) t)) ?_)
    unfold setAdd
    refine wpAny_holding (wpAny_bind ((intKind prog w).pyHash (k := val i) (intKind_is _ _ _ _) ?_))
    refine Grown.next (s := { z' with toks := z'.toks + 1 }) g' (by omega) fun _ h' sb g2 => ?_
    have keep : ∀ b o, b ≠ S → z'.heap.get? b = some o → h'.get? b = some o := fun b o hb y => by rw [sb.2 b hb]; exact y
    refine wpAny_pure ⟨plainId_quiet F.plain_set_update_loop _, ih (i + 1) _ (by omega) (W.frame _ z' _ _ st' (Nat.le_succ _) fun b hb o y => keep b o (fun c => out (c ▸ hb)) y) ?_ g2⟩
    exact Moved.trans W.gtrans mv ((m.mono wider).then_heap (Nat.le_succ _) fun b o hb y => keep b o (fun c => hb (c ▸ List.mem_cons_self)) y)
/-- the new set, before anything is in it -/
def bareSet (w : World) : Obj := { cls := .type "set", dict := none, data := .set #[] 0 (.fresh 0 0 (!w.params.followText "set-order")) }
theorem new_bare (x : Value) {Q : Value → Shared → Prop} (h : Q (.ref s.heap.objs.size) { s with heap := s.heap.push (bareSet w) }) :
    codeAny (model prog w) A (.call (.builtin "set.__new__") ⟨[.type "set", x], []⟩) (wants Q E) s := by
  refine codeAny_of_tree ?_
  show wpAny _ A.in1 (checkBuiltinCall "set.__new__" ⟨[.type "set", x], []⟩ >>= fun _ => again (.builtin "set.__new__" ⟨[.type "set", x], []⟩)) _ _ s
  refine wpAny_bind (wpAny_of_eq (F.newCall_set_1 x) (wpAny_pure ⟨plainId_quiet F.plain_set_new _, codeAny_builtin F.entry_set_new ?_⟩))
  rw [Around.under_plainId F.plain_set_new _]
  have sub := sub_set_self
  unfold Builtin.«set.__new__» Builtin.Frozenset.newClass
  obtain ⟨hp, g, d, tk, os⟩ := s
  dsimp only
  wp_walk
  exact wpAny_askSetting (wpAny_pure (by dsimp only; simp only [newObj]; exact wpAny_bind (wpAny_alloc (wpAny_pure (wpAny_pure h)))))
/-- set.__init__ of a bare set and a list of whole numbers -/
theorem init_bare {l : Addr} {items : Array Value} {ns : List Int} {R : Result → Shared → Prop} {S : Addr} (hh : A.handled = none) (hS : s.heap.get? S = some (bareSet w)) (hl : s.heap.IsList l items) (hi : IntsAre items.toList ns) (room : items.size + 1 < scanBound)
    (fin : ∀ (h' : Heap) (tk : Nat), Grown w (fun i => ns.getD i 0) S items.size h' → (∀ b o, b ≠ S → s.heap.get? b = some o → h'.get? b = some o) → R (.ok (.ret .none)) { s with heap := h', toks := tk }) :
    wpAny (model prog w) A.in1 (Builtin.«set.__init__» ⟨[.ref S, .ref l], []⟩)
      (fun f s' => match f with | .done f => R (.ok f) s' | .again c => c.quiet = true ∧ codeAny (model prog w) A c R s') (fun e s' => R (.error e) s') s := by
  obtain ⟨⟨cl, dc, dt, so⟩, hol, hcl, nl, hdl⟩ := id hl
  simp only at hcl hdl
  subst hcl hdl
  have noSet := F.sub_list_set
  have noFrozen := F.sub_list_frozenset
  have noDict : (Value.type "list" == Value.type "dict") = false := by decide
  unfold bareSet at hS
  unfold Builtin.«set.__init__» noKeywords Builtin.Frozenset.updateFrom
  generalize eI : pyIter = walkIt
  wp_walk
  subst eI
  refine wpAny_pyIter_list hl ?_
  refine wpAny_bind (wpAny_runValue ?_)
  have lt1 : l < s.heap.objs.size := Heap.lt_size hol
  have ltS : S < s.heap.objs.size := Heap.lt_size hS
  have neS : l ≠ S := fun z => by
    rw [z, hS] at hol
    simp at hol
  have old : ∀ b o, s.heap.get? b = some o → (s.heap.push { cls := .type "list_iterator", data := .fields #[.ref l, .int 0 0] }).get? b = some o := fun b o y => Heap.get?_push_of_some _ y
  refine grow_all (s0 := { s with heap := s.heap.push { cls := .type "list_iterator", data := .fields #[.ref l, .int 0 0] } }) (val := fun i => ns.getD i 0) ((Walks.list (prog := prog) (w := w) (A := A.in1.in1) hh s.heap.objs.size l (Nat.ne_of_lt lt1) items).toS) ?_ (fun i v y => IntsAre.int_at hi i v (by rw [Array.getElem?_toList]; exact y)) room (fun z m g => ?_) items.size 0 _ (by omega) ⟨⟨_, Heap.get?_push_size _ rfl, rfl, rfl⟩, hl.push _⟩ (Moved.refl fun _ => rfl) ?_
  · simp only [List.mem_cons, List.not_mem_nil, or_false, not_or]
    exact ⟨Nat.ne_of_lt ltS, fun z => neS z.symm⟩
  · have ez := Moved.eq_with m
    rw [ez]
    refine wpAny_pure ?_
    show wpAny _ _ (ret Value.none) _ _ _
    refine wpAny_pure (fin z.heap z.toks g fun b o hb y => m.heap b o (fun hm => ?_) (old b o y))
    rcases List.mem_cons.mp hm with hm | hm
    · exact hb hm
    · have e : b = s.heap.objs.size := by simpa using hm
      exact Nat.lt_irrefl _ (e ▸ Heap.lt_size y)
  · have g0 : SetR w (s.heap.push { cls := .type "list_iterator", data := .fields #[.ref l, .int 0 0] }) S (fun _ => false) 0 :=
      ⟨_, #[], 0, _, old _ _ hS, ⟨rfl, rfl, rfl⟩, rfl, (fun e he => by simp at he), (by simp), (fun k => by simp), (by decide), (by rfl), rfl, List.Pairwise.nil, by
        show _ ∨ (!w.params.followText "set-order") = true
        cases w.params.followText "set-order"
        · exact .inr rfl
        · exact .inl rfl⟩
    exact g0
/-- set(xs) of whole numbers, with what sorted needs -/
theorem set_of_ints {l : Addr} {items : Array Value} {ns : List Int} {Q : Value → Shared → Prop} (hh : A.handled = none) (hl : s.heap.IsList l items) (hi : IntsAre items.toList ns) (room : items.size + 1 < scanBound)
    (fin : ∀ (h' : Heap) (tk : Nat), Grown w (fun i => ns.getD i 0) s.heap.objs.size items.size h' → (∀ b o, s.heap.get? b = some o → h'.get? b = some o) → Q (.ref s.heap.objs.size) { s with heap := h', toks := tk }) :
    wpAny (model prog w) A (call (.type "set") [.ref l]) Q E s := by
  have T := F.called_set
  obtain ⟨c, tl, mro⟩ := T.mro
  have made := T.made
  have sub := T.sub
  have known := T.init.lookup
  have nt := T.notType
  have cc := T.canCreate
  have tc := F.typeCall_set_1 (.ref l)
  refine wpAny_call (codeAny_of_tree ?_)
  show wpAny _ _ (callAny (.type "set") _) _ _ _
  refine wpAny_pure ⟨Code.quiet_builtin _ (by decide +kernel), codeAny_builtin F.entry_type_call ?_⟩
  rw [Around.under_plain (weight_type_call_type "set" [.ref l] []) rfl]
  repeat (any_goals (first | assumption | wp_step))
  refine codeAny_mono (new_bare (w := w) (.ref l) (E := E) (Q := fun v z => v = .ref s.heap.objs.size ∧ z = { s with heap := s.heap.push (bareSet w) }) ⟨rfl, rfl⟩) fun r z hr => ?_
  cases r with
  | error e => exact hr
  | ok f =>
    cases f with
    | ret v =>
      obtain ⟨rfl, rfl⟩ := hr
      have hS : (s.heap.push (bareSet w)).get? s.heap.objs.size = some (bareSet w) := Heap.get?_push_size _ rfl
      have bind := T.init.bind (.ref s.heap.objs.size)
      have sub2 : isSubtype (bareSet w).cls (Value.type "set") = pure true := sub
      have known2 := known
      have ty : Shared.TypeIs { s with heap := s.heap.push (bareSet w) } (.ref s.heap.objs.size) "set" := ⟨_, hS, rfl⟩
      repeat (any_goals (first | assumption | wp_step))
      refine codeAny_mono (codeAny_call_builtin (R := wants (fun r z => r = .none ∧ ∃ h' tk, z = { s with heap := h', toks := tk } ∧ Grown w (fun i => ns.getD i 0) s.heap.objs.size items.size h' ∧ ∀ b o, s.heap.get? b = some o → h'.get? b = some o) E) T.init.plain F.entry_set_init (check_set_init_1 ty ?_)) fun r2 z2 h2 => ?_
      · refine init_bare (s := { s with heap := s.heap.push (bareSet w) }) (R := _) (S := s.heap.objs.size) (by simp [hh]) hS (hl.push _) hi room fun h' tk g k => ⟨rfl, h', tk, rfl, g, fun b o y => k b o (Nat.ne_of_lt (Heap.lt_size y)) (Heap.get?_push_of_some _ y)⟩
      · cases r2 with
        | error e => exact h2
        | ok f2 =>
          cases f2 with
          | ret v2 =>
            obtain ⟨rfl, h', tk, rfl, g, k⟩ := h2
            repeat (any_goals (first | assumption | wp_step))
            exact fin h' tk g k
          | _ => exact h2.elim
    | _ => exact hr.elim
end
end HT
namespace Cm
open PySem PySem.Spec PyProof.Rows L2
/-! ### sorted(set(xs)) of whole numbers -/
def rSrtU (K : PySem.W.Frag) (x : V) (H1 : Hp) (Q : VK) : Prop := ∃ (l : Addr) (ns : List Int), x = .ref l ∧ SqL K H1 l (ns.map V.int) ∧ (ns.length ≤ 1000 ∧ unl ns ≤ 60) ∧ ∀ (ms : List Int) (p : Addr), ms.Pairwise (· < ·) → (∀ k, k ∈ ms ↔ k ∈ ns) → H1 p = none → Q (.ref p) (upd H1 p (.lst (ms.map V.int)))
def tSrtU (K : PySem.W.Frag) (ta : TE) : TE := fun σ H Q => ta σ H fun x H1 => rSrtU K x H1 Q
theorem met_mem {ns : List Int} (k : Int) : (PyProof.Rows.firstMet (fun i => ns.getD i 0) ns.length).any (· == k) = true ↔ k ∈ ns := by
  rw [firstMet_any]
  have e : (List.range ns.length).map (fun i => ns.getD i 0) = ns := by
    refine List.ext_getElem? fun i => ?_
    rw [List.getElem?_map]
    by_cases c : i < ns.length
    · rw [List.getElem?_range c, List.getElem?_eq_getElem c]
      simp [List.getD_eq_getElem?_getD, c]
    · rw [List.getElem?_eq_none (by simpa using c), List.getElem?_eq_none (by simpa using c)]; rfl
  rw [e, List.any_eq_true]
  constructor
  · rintro ⟨x, hx, h⟩; rw [← eq_of_beq h]; exact hx
  · intro h; exact ⟨k, h, beq_self_eq_true k⟩
theorem pe_srtU {X : Cx} {a : Expr} {ta : TE} {p p2 q pos : Pos} (cm : X.calm = true) (gl : Gl X "sorted") (ml : X.mg "sorted" = none) (gs : Gl X "set") (ms : X.mg "set" = none) (pa : PE X a ta)
    (se : starEach [a] X.env = (false, eval a X.env) :: starEach [] X.env := by rfl) : PE X (.Call (.Name "sorted" p) [.Call (.Name "set" p2) [a] [] q] [] pos) (tSrtU X.K ta) := by
  constructor
  intro pins s σ H Q I h
  refine Call_ (ld_blt I gl ml boot_sorted (PyProof.Rows.callWith_builtin1 (PyProof.Rows.args_cons ?_ rfl) rfl rfl))
  refine Call_ (ld_blt I gs ms boot_set (PyProof.Rows.callWith_type1 (PyProof.Rows.args_cons (thn (pa.run pins s σ H _ I h) fun v s1 ⟨x, H1, J, rx, qx⟩ => PyProof.Rows.args_nil ?_) se) se rfl))
  obtain ⟨l, ns, rfl, hq, ⟨hl, few⟩, qx⟩ := qx
  cases rx
  obtain ⟨its, rv, pl, hz⟩ := J.list hq
  have size : its.toArray.size = ns.length := by rw [List.size_toArray, ← rv.length, List.length_map]
  unfold unl at few
  refine HT.set_of_ints (J.ok.hd cm) pl.isList (by simpa using RZ.intsAre_vals rv) (by rw [size]; unfold scanBound; omega) fun h' tk g k => PyProof.Rows.args_nil ?_
  rw [size] at g
  have J2 : Inv X pins σ H1 { s1 with heap := h', toks := tk } := J.kept k
  have g2 : SetR X.w ({ s1 with heap := h', toks := tk } : Shared).heap s1.heap.objs.size _ _ := g
  generalize s1.heap.objs.size = sa at g2 ⊢
  generalize ({ s1 with heap := h', toks := tk } : Shared) = s2 at J2 g2 ⊢
  refine sorted_set g2 (J2.ok.hd cm) (by omega) fun s3 p out c ms keep gens os hp hg hin hs hm len => ?_
  have fresh : H1 p = none := J2.hok.fresh hp
  have es : s3 = { s2 with heap := s3.heap, gens := s3.gens, drawn := s3.drawn, toks := s3.toks } := by
    cases s3
    cases s2
    cases os
    rfl
  rw [es]
  have line : (ms.map V.int).length ≤ sizeLine := by
    rw [List.length_map, len]
    exact sz (by omega)
  have J3 : Inv X pins σ (upd H1 p (.lst (ms.map V.int))) { s2 with heap := s3.heap, gens := s3.gens, drawn := s3.drawn, toks := s3.toks } :=
    J2.call (ch := []) (Un.laid keep hp fresh) (J2.hok.laid keep hp ⟨line, out.toList, c, vals_of_ints hin, hg⟩) (by rw [gens]; exact J2.bare) (fun _ z => nomatch z)
  exact ⟨.ref p, _, J3, rfl, qx ms p hs (fun k => (hm k).trans (met_mem k)) fresh⟩
instance {K : PySem.W.Frag} {σ : L2.St} {H : Hp} {Q : VK} {te : TE} : Stp (tSrtU K te σ H Q) (te σ H fun x H1 => rSrtU K x H1 Q) := ⟨id⟩
theorem k_srtU {K : PySem.W.Frag} {H : Hp} {Q : VK} {l : Addr} {ns : List Int} (hs : SqL K H l (ns.map V.int)) (hl : ns.length ≤ 1000) (hu : unl ns ≤ 60) (h : ∀ (ms : List Int) (p : Addr) H', ms.Pairwise (· < ·) → (∀ k, k ∈ ms ↔ k ∈ ns) → H p = none → Same H H' → H' p = some (.lst (ms.map V.int)) → Q (.ref p) H') : rSrtU K (.ref l) H Q := ⟨l, ns, rfl, hs, ⟨hl, hu⟩, fun ms p a b c => h ms p _ a b c (same_new c) upd_same⟩
end Cm
namespace Cm
open PySem PySem.Spec PyProof.Rows L2
/-! ### x (not) in range(..) -/
theorem rg_has (o : Addr) (p q st x : Int) (k1 k2 k3 k4 : Tok) :
    Meets (Builtin.«range.__contains__» ⟨[.ref o, .int x k4], []⟩) (fun _ W z => z.heap.get? o = some { cls := .type "range", data := .fields #[.int p k1, .int q k2, .int st k3], dict := none, slots := #[] } ∧ W (.ok (.ret (.bool (Builtin.Range.rangePlace? p q st x).isSome))) z) :=
  .of_wp fun prog w A W z hz => by
    obtain ⟨hp, gg, dd, kk, ss⟩ := z
    obtain ⟨there, hz⟩ := hz
    wp_walk
    exact ⟨_, rfl, hz⟩
def RgV (vs : List V) (a b c : Int) : Prop := (vs = [.int b] ∧ a = 0 ∧ c = 1) ∨ (vs = [.int a, .int b, .int c] ∧ 0 < c ∧ c < 1073741824)
def inRgB (neg : Bool) (a b c i : Int) : Bool := if neg then !(Builtin.Range.rangePlace? a b c i).isSome else (Builtin.Range.rangePlace? a b c i).isSome
def tInRg (neg : Bool) (ta : TE) (tA : TA) : TE := fun σ H Q => ta σ H fun x H1 => tA σ H1 fun vs H2 => ∃ i a b c, x = .int i ∧ RgV vs a b c ∧ Q (.bl (inRgB neg a b c i)) H2
def rgOp : Bool → CmpOp
  | true => .NotIn
  | false => .In
theorem cmp_rg {X : Cx} {neg : Bool} {pins : List (Addr × Obj)} {s : Shared} {σ : L2.St} {H : Hp} {Q : VK} {o : Addr} {p q st x : Int} {k1 k2 k3 k4 : Tok} (J : Inv X pins σ H s) (ho : s.heap.get? o = some { cls := .type "range", data := .fields #[.int p k1, .int q k2, .int st k3] })
    (h : Q (.bl (inRgB neg p q st x)) H) : wpAny (model X.prog X.w) X.A (compareOp (rgOp neg) (.int x k4) (.ref o)) (EP X pins σ Q) X.xe s := by
  have go : ∀ {R : Bool → Shared → Prop}, R (Builtin.Range.rangePlace? p q st x).isSome s → wpAny (model X.prog X.w) X.A (contains (Value.ref o) (Value.int x k4)) R X.xe s := fun h =>
    wpAny_contains_slot (T := "range") ⟨_, ho, rfl⟩ F.slot_range_contains (call_meets F.slot_range_contains ⟨_, ho, rfl⟩ F.entry_range_contains (F.args_range_contains_2 _ _) (rg_has o p q st x k1 k2 k3 k4) ⟨ho, wpAny_truthy_bool h⟩)
  cases neg with
  | false =>
    show wpAny _ _ (do return Value.bool (← contains (Value.ref o) (Value.int x k4))) _ _ s
    exact wpAny_bind (go (wpAny_pure ⟨.bl _, H, J, rfl, h⟩))
  | true =>
    show wpAny _ _ (do return Value.bool (!(← contains (Value.ref o) (Value.int x k4)))) _ _ s
    exact wpAny_bind (go (wpAny_pure ⟨.bl _, H, J, rfl, h⟩))
theorem pc_inRg {X : Cx} {neg : Bool} {a b : Expr} {rest : List Expr} {ta : TE} {tA : TA} {p pos : Pos} (hg : Gl X "range") (hm : X.mg "range" = none) (pa : PE X a ta) (pA : PA X (b :: rest) tA)
    (he : starEach (b :: rest) X.env = (false, eval b X.env) :: starEach rest X.env) (hpl : (backTo pos (starEach rest X.env)).any (·.1) = false) : PC X (rgOp neg) a (.Call (.Name "range" p) (b :: rest) [] pos) (tInRg neg ta tA) := by
  refine ⟨fun pins s σ H Q I h => ?_⟩
  refine thn (pa.run pins s σ H _ I h) fun v s1 ⟨x, H1, I1, rx, q1⟩ => ?_
  refine Call_ (ld_blt I1 hg hm boot_range (PyProof.Rows.callWith_type1 (thn (pA.run pos pins s1 σ H1 _ I1 q1) fun us s2 ⟨vs, H2, I2, rs, q2⟩ => ?_) he hpl))
  obtain ⟨i, lo, hi, st, rfl, hv, q⟩ := q2
  obtain ⟨k, rfl⟩ := rx
  rcases hv with ⟨rfl, rfl, rfl⟩ | ⟨rfl, c0, c1⟩
  · cases rs with | cons r1 rr =>
    cases rr
    obtain ⟨t1, rfl⟩ := r1
    refine call_range_1 ?_
    exact cmp_rg (I2.kept fun b o e => Heap.get?_push_of_some _ e) (Heap.get?_push_size _ rfl) q
  · cases rs with | cons r1 rr =>
    cases rr with | cons r2 rr =>
    cases rr with | cons r3 rr =>
    cases rr
    obtain ⟨t1, rfl⟩ := r1
    obtain ⟨t2, rfl⟩ := r2
    obtain ⟨t3, rfl⟩ := r3
    refine call_range_3 (by omega) ?_ (.inl (PyProof.noPylong_small (by omega)))
    exact cmp_rg (I2.kept fun b o e => Heap.get?_push_of_some _ e) (Heap.get?_push_size _ rfl) q
def iRgIn (neg : Bool) (x : V) (vs : List V) (H : Hp) (Q : VK) : Prop := ∃ i a b c, x = .int i ∧ RgV vs a b c ∧ Q (.bl (inRgB neg a b c i)) H
instance {σ : L2.St} {H : Hp} {Q : VK} {neg : Bool} {ta : TE} {tA : TA} : Stp (tInRg neg ta tA σ H Q) (ta σ H fun x H1 => tA σ H1 fun vs H2 => iRgIn neg x vs H2 Q) := ⟨id⟩
theorem place_has (a b c i : Int) (hc : 0 < c) : (Builtin.Range.rangePlace? a b c i).isSome = decide (a ≤ i ∧ i < b ∧ (i - a) % c = 0) := by
  unfold Builtin.Range.rangePlace?
  rw [if_pos hc]
  by_cases h1 : a ≤ i <;> by_cases h2 : i < b <;> by_cases h3 : (i - a) % c = 0 <;> simp [h1, h2, h3]
theorem k_inRg1 {neg : Bool} {H : Hp} {Q : VK} {i n : Int} (h : Q (.bl (if neg then !decide (0 ≤ i ∧ i < n) else decide (0 ≤ i ∧ i < n))) H) : iRgIn neg (.int i) [.int n] H Q := ⟨i, 0, n, 1, rfl, .inl ⟨rfl, rfl, rfl⟩, by
  have e : decide (0 ≤ i ∧ i < n ∧ (i - 0) % 1 = 0) = decide (0 ≤ i ∧ i < n) := by rw [decide_eq_decide]; constructor <;> omega
  unfold inRgB
  rw [place_has 0 n 1 i (by decide), e]
  exact h⟩
theorem k_inRg3 {neg : Bool} {H : Hp} {Q : VK} {i a b c : Int} (hc : 0 < c) (hc2 : c < 1073741824) (h : Q (.bl (if neg then !decide (a ≤ i ∧ i < b ∧ (i - a) % c = 0) else decide (a ≤ i ∧ i < b ∧ (i - a) % c = 0))) H) : iRgIn neg (.int i) [.int a, .int b, .int c] H Q := ⟨i, a, b, c, rfl, .inr ⟨rfl, hc, hc2⟩, by
  unfold inRgB
  rw [place_has a b c i hc]
  exact h⟩
end Cm

namespace Cm
open PySem PySem.Spec PyProof.Rows L2
/-! ### sorted(xs), xs a list of data -/
def byD (z : V × PyData) : PyData := z.2
def srtD (xs : List V) (ds : List PyData) : List (V × PyData) := (xs.zip ds).mergeSort (PySem.W.dataLe false byD)
def rSortD (K : PySem.W.Frag) : List V → Hp → VK → Prop := fun vs H Q => ∃ (a : Addr) (xs : List V) (ds : List PyData), vs = [V.ref a] ∧ SqL K H a xs ∧ DpAll K H xs ds ∧ PySem.W.AllAlike ds ∧ PySem.W.Sortable ds ∧ (∀ d ∈ ds, d.depth ≤ 62) ∧
  ∀ p, H p = none → Q (.ref p) (upd H p (.lst ((srtD xs ds).map Prod.fst)))
section
variable {X : Cx} {pins : List (Addr × Obj)} {σ : L2.St} {H : Hp} {s : Shared}
theorem zip_snd : ∀ {xs : List V} {ds : List PyData}, DpAll X.K H xs ds → (xs.zip ds).map byD = ds
  | _, _, .nil => rfl
  | _, _, .cons _ t => by rw [List.zip_cons_cons, List.map_cons, zip_snd t]; rfl
theorem zip_is (I : Inv X pins σ H s) : ∀ {xs : List V} {ds : List PyData} {us : List Value}, DpAll X.K H xs ds → Vals xs us → PySem.W.EachIs (fun v (z : V × PyData) => RelV z.1 v) us (xs.zip ds) ∧ PySem.W.EachIs (fun v (z : V × PyData) => ∃ as, Reads s.heap v (byD z) as) us (xs.zip ds)
  | _, _, _, .nil, .nil => ⟨.nil, .nil⟩
  | _, _, _, .cons h t, .cons r rt => by
    obtain ⟨h1, h2⟩ := zip_is I t rt
    exact ⟨.cons r h1, .cons (Dp.reads I _ _ _ h r) h2⟩
theorem is_vals : ∀ {us : List Value} {zs : List (V × PyData)}, PySem.W.EachIs (fun v (z : V × PyData) => RelV z.1 v) us zs → Vals (zs.map Prod.fst) us
  | _, _, .nil => .nil
  | _, _, .cons r t => .cons r (is_vals t)
theorem cr_sortD (hu : X.A.units + 64 < cLine) : CallR X (.builtin "sorted") (rSortD X.K) := by
  intro pins s σ H vs us Q I r h
  obtain ⟨a, xs, ds, rfl, hs, hd, al, so, dep, q⟩ := h
  obtain ⟨its, rv, hl, hz⟩ := I.list hs
  rw [Vals.ref1 r]
  obtain ⟨e, er⟩ := zip_is I hd rv
  have zs := zip_snd hd
  have lz : (xs.zip ds).length = xs.length := by
    rw [List.length_zip, dpa_len hd, Nat.min_self]
  refine PySem.W.sorted_data hl.isList e er (by rw [zs]; exact al) (by rw [zs]; exact so) (by rw [lz]; exact hz) (fun z hz' => ?_) (fun out lo eo => ?_)
  · have : byD z ∈ ds := by rw [← zs]; exact List.mem_map_of_mem hz'
    have := dep _ this
    omega
  · obtain ⟨ep, at1⟩ := PyProof.Rows.sortedAll_at s.heap its out.toArray
    refine ⟨.ref _, upd H (s.heap.objs.size + 1) (.lst ((srtD xs ds).map Prod.fst)), I.laid (t' := s.toks) (fun _ _ => PyProof.Rows.sortedAll_old) (Nat.le_succ _) ⟨?_, out, ep, is_vals eo, at1⟩, rfl, q _ (I.hok.fresh (Nat.le_succ _))⟩
    rw [List.length_map, srtD, List.length_mergeSort, lz]
    exact hz
end
end Cm
namespace HT
open PySem PySem.Spec PyProof.Rows L2
/-! ### x in d.values() -/
theorem ent_ci : entryFor table "proto.contains_iter" = some Builtin.«proto.contains_iter» := entryFor_of_tree (by kernel_rfl)
theorem pl_ci : plainId "proto.contains_iter" = true := by decide +kernel
theorem lk_vals : typeLookup (.type "dict_values") "__contains__" = pure none := by rfl
section
variable {prog : Program} {w : World} {A : Around} {E : Value → Shared → Prop} {s : Shared}
theorem seek_all {I : Addr} {fp wr : List Addr} {n : Nat} {P : Nat → Value → Prop} {St : Nat → Heap → Prop} {R : Result → Shared → Prop} {val : Nat → Int} {x : Int} {tk : Tok}
    (W : Walks prog w A.in1 I fp wr n P St) (hin : ∀ i v, P i v → ∃ t, v = .int (val i) t) :
    ∀ (left i : Nat) (z : Shared), i + left = n → St i z.heap → (∀ b h' k, (b = true ↔ ∃ j, i ≤ j ∧ j < n ∧ val j = x) → (∀ c o, c ∉ wr → z.heap.get? c = some o → h'.get? c = some o) → R (.ok (.ret (.bool b))) { z with heap := h', toks := k }) →
      codeAny (model prog w) A (.builtin "proto.contains_iter" ⟨[.ref I, .int x tk], []⟩) R z := by
  intro left
  induction left with
  | zero =>
    intro i z e st fin
    obtain rfl : i = n := e
    refine codeAny_builtin ent_ci ?_
    rw [Around.under_plainId pl_ci _]
    refine wpAny_bind (W.done z _ _ st fun h' k kp => ?_)
    refine wpAny_bind (wpAny_rule (wpAny_pure ?_))
    exact fin false h' k ⟨(fun y => by cases y), fun ⟨j, h1, h2, _⟩ => by omega⟩ kp
  | succ left ih =>
    intro i z e st fin
    refine codeAny_builtin ent_ci ?_
    rw [Around.under_plainId pl_ci _]
    refine wpAny_bind (W.item i z _ _ (by omega) st fun v h' k pv st' kp => ?_)
    obtain ⟨t, rfl⟩ := hin i v pv
    refine wpAny_bind (wpAny_eqBool_int ?_)
    by_cases c : val i = x
    · rw [show (val i == x) = true by rw [c]; simp, if_pos rfl]
      refine wpAny_bind (wpAny_rule (wpAny_pure ?_))
      exact fin true h' k ⟨fun _ => ⟨i, Nat.le_refl _, by omega, c⟩, fun _ => rfl⟩ kp
    · rw [show (val i == x) = false by simpa using c, if_neg (by decide)]
      refine wpAny_pure ⟨plainId_quiet pl_ci _, ih (i + 1) { z with heap := h', toks := k } (by omega) st' fun b h2 k2 hb kp2 => ?_⟩
      refine fin b h2 k2 (hb.trans ⟨fun ⟨j, h1, h2, h3⟩ => ⟨j, by omega, h2, h3⟩, fun ⟨j, h1, h2, h3⟩ => ⟨j, ?_, h2, h3⟩⟩) fun c o hc y => kp2 c o hc (kp c o hc y)
      by_cases e : j = i
      · exact absurd (e ▸ h3) c
      · omega
theorem in_view {K : Type} [DecidableEq K] {knd : PySem.KeyKind prog w K} {v d : Addr} {kvs : List (K × Value)} {ep : Nat} {is : List Int} {x : Int} {tk : Tok} {Q : Bool → Shared → Prop} (hh : A.handled = none) (hv : s.heap.IsValuesView v d) (hm : s.heap.DictAt knd d kvs ep)
    (vals : ∀ (i : Nat) (u : Value), (∃ k, kvs[i]? = some (k, u)) → ∃ t, u = Value.int (is.getD i 0) t) (ln : kvs.length = is.length)
    (fin : ∀ b h' k, (b = true ↔ x ∈ is) → (∀ c o, s.heap.get? c = some o → h'.get? c = some o) → Q b { s with heap := h', toks := k }) : wpAny (model prog w) A (contains (.ref v) (.int x tk)) Q E s := by
  have ty : s.TypeIs (.ref v) "dict_values" := hv.typeIs
  unfold contains
  refine wpAny_holding ?_
  rw [stdlibNamesSay?_of_typeIs ty]
  refine wpAny_bind (wpAny_specialOf ty lk_vals ?_)
  rw [if_neg (by decide)]
  refine wpAny_bind (wpAny_callSpecialUnlessNone?_none ty lk_vals ?_)
  refine wpAny_bind (wpAny_rule ?_)
  refine wpAny_bind (wpAny_tryCatch (wpAny_pyIter_values hv hm ?_))
  have dlt : d < s.heap.objs.size := by
    obtain ⟨o, es, ho, _⟩ := hm
    exact Heap.lt_size ho
  have up : ∀ b u, s.heap.get? b = some u → (s.heap.push { cls := .type "dict_valueiterator", data := .fields #[.ref d, .int 0 0, .int kvs.length 0, .int ep 0] }).get? b = some u := fun b u e => Heap.get?_push_of_some _ e
  refine wpAny_bind (wpAny_runValue (seek_all (val := fun i => is.getD i 0) (Walks.dictValues (knd := knd) (A := A.in1) hh s.heap.objs.size d (Nat.ne_of_lt dlt) kvs ep) vals kvs.length 0 _ (by omega) ⟨⟨_, Heap.get?_push_size _ rfl, rfl, rfl⟩, hm.keep up⟩ (fun b h' k hb kp => ?_)))
  refine wpAny_pure (fin b h' k (hb.trans ?_) fun c o y => kp c o (fun hc => ?_) (up c o y))
  · rw [List.mem_iff_getElem]
    constructor
    · rintro ⟨j, _, h2, h3⟩
      have hj : j < is.length := by omega
      refine ⟨j, hj, ?_⟩
      rw [← h3, List.getD_eq_getElem?_getD, List.getElem?_eq_getElem hj]; rfl
    · rintro ⟨j, hj, e⟩
      refine ⟨j, Nat.zero_le _, by omega, ?_⟩
      show is.getD j 0 = x
      rw [← e, List.getD_eq_getElem?_getD, List.getElem?_eq_getElem hj]; rfl
  · have e1 : c = s.heap.objs.size := List.mem_singleton.mp hc
    exact Nat.lt_irrefl _ (e1 ▸ Heap.lt_size y)
end
end HT
namespace Cm
open PySem PySem.Spec PyProof.Rows L2
def iInV (neg : Bool) (x y : V) (H : Hp) (Q : VK) : Prop := ∃ (i : Int) (a : Addr) (kvs : List (Key × V)) (is : List Int), x = .int i ∧ y = .ref a ∧ H a = some (.dK kvs) ∧ kvs.map (·.2) = is.map V.int ∧ Q (.bl (if neg then !decide (i ∈ is) else decide (i ∈ is))) H
def tInV (neg : Bool) (ta td : TE) : TE := fun σ H Q => ta σ H fun x H1 => td σ H1 fun y H2 => iInV neg x y H2 Q
instance {σ : L2.St} {H : Hp} {Q : VK} {neg : Bool} {ta td : TE} : Stp (tInV neg ta td σ H Q) (ta σ H fun x H1 => td σ H1 fun y H2 => iInV neg x y H2 Q) := ⟨id⟩
theorem pc_inVals {X : Cx} {neg : Bool} {a o : Expr} {apos mpos : Pos} {ta td : TE} (hc : X.calm = true) (pa : PE X a ta) (hd : PE X o td) (hbase : attributeBase o "values" X.env (eval o X.env) = eval o X.env := by rfl) (hline : (apos.endLine == mpos.line) = true := by rfl) :
    PC X (rgOp neg) a (.Call (.Attribute o "values" apos) [] [] mpos) (tInV neg ta td) := by
  refine ⟨fun pins s σ H Q I h => ?_⟩
  refine thn (pa.run pins s σ H _ I h) fun w0 s0 ⟨x, H0, I0, r0, q0⟩ => ?_
  refine wpAny_Call_method0_late hbase hline (thn (hd.run pins s0 σ H0 _ I0 q0) ?_)
  rintro v s1 ⟨y, H1, I1, r1, i, d, kvs, is, rfl, rfl, ha, hv, q⟩
  obtain rfl : v = Value.ref d := r1
  obtain ⟨tk, rfl⟩ := r0
  obtain ⟨_, hsys, vs, rel, dof⟩ := dk_of I1.hok ha
  obtain ⟨ep, dat⟩ := dof.dictAt
  obtain ⟨ob, es, ho, ex, hdat, hko, hpr, hnd⟩ := id dat
  have lv : vs.length = is.length := by
    have e1 : kvs.length = is.length := by simpa using congrArg List.length hv
    rw [← e1]; exact (KV.length rel).symm
  have vals : ∀ (i : Nat) (v : Value), (∃ k, vs[i]? = some (k, v)) → ∃ t, v = Value.int (is.getD i 0) t := by
    rintro j v ⟨k, hk⟩
    obtain ⟨z, h1, h2⟩ := KV.at' rel hk
    have e1 : (is.map V.int)[j]? = some z := by rw [← hv, List.getElem?_map, h1] <;> rfl
    rw [List.getElem?_map] at e1
    obtain ⟨m, hm, rfl⟩ := Option.map_eq_some_iff.mp e1
    obtain ⟨t, e3⟩ := h2
    exact ⟨t, by rw [e3, List.getD_eq_getElem?_getD, hm] <;> rfl⟩
  refine ⟨"dict", "dict.values", F.plainAttrs_dict, F.slot_dict_values, F.type_dict_values, ⟨ob, ho, ex.1⟩, fun b e => by cases e; exact ⟨ob, ho, ex.2.1⟩, Calls.callWith_builtin rfl (PySem.evalArgs_none ?_)⟩
  refine call_meetsIn F.slot_dict_values ⟨ob, ho, ex.1⟩ F.entry_dict_values (F.args_dict_values_1 _) (meets_dict_values (mixKind X.prog X.w) d hsys) ⟨⟨vs, dof⟩, ?_⟩
  have up : ∀ b u, s1.heap.get? b = some u → (s1.heap.push { cls := .type "dict_values", data := .fields #[.ref d] }).get? b = some u := fun b u e => Heap.get?_push_of_some _ e
  have go : ∀ {R : Bool → Shared → Prop}, (∀ b h' k, (b = true ↔ i ∈ is) → (∀ c o, (s1.heap.push { cls := .type "dict_values", data := .fields #[.ref d] }).get? c = some o → h'.get? c = some o) → R b { s1 with heap := h', toks := k }) → wpAny (model X.prog X.w) X.A (contains (.ref s1.heap.objs.size) (.int i tk)) R X.xe { s1 with heap := s1.heap.push { cls := .type "dict_values", data := .fields #[.ref d] } } := fun fin =>
    HT.in_view (I.ok.hd hc) (v := s1.heap.objs.size) (d := d) ⟨_, Heap.get?_push_size _ rfl, rfl, rfl⟩ (dat.keep up) vals lv fin
  have keep : ∀ {h' : Heap} {k : Nat}, (∀ c o, (s1.heap.push { cls := .type "dict_values", data := .fields #[.ref d] }).get? c = some o → h'.get? c = some o) → Inv X pins σ H1 { s1 with heap := h', toks := k } := fun {h' k} kp => I1.kept (t' := k) fun b u e => kp b u (up b u e)
  cases neg with
  | false =>
    show wpAny _ _ (do return Value.bool (← contains (Value.ref s1.heap.objs.size) (Value.int i tk))) _ _ _
    refine wpAny_bind (go fun b h' k hb kp => wpAny_pure ⟨.bl b, H1, keep kp, rfl, ?_⟩)
    have e : b = decide (i ∈ is) := by rw [Bool.eq_iff_iff, hb, decide_eq_true_eq]
    rw [e]; exact q
  | true =>
    show wpAny _ _ (do return Value.bool (!(← contains (Value.ref s1.heap.objs.size) (Value.int i tk)))) _ _ _
    refine wpAny_bind (go fun b h' k hb kp => wpAny_pure ⟨.bl !b, H1, keep kp, rfl, ?_⟩)
    have e : b = decide (i ∈ is) := by rw [Bool.eq_iff_iff, hb, decide_eq_true_eq]
    rw [e]; exact q
theorem k_inV {neg : Bool} {H : Hp} {Q : VK} {i : Int} {a : Addr} {kvs : List (Key × V)} {is : List Int} (e : H a = some (.dK kvs)) (hv : kvs.map (·.2) = is.map V.int) (h : Q (.bl (if neg then !decide (i ∈ is) else decide (i ∈ is))) H) : iInV neg (.int i) (.ref a) H Q := ⟨i, a, kvs, is, rfl, rfl, e, hv, h⟩
theorem k_nInV {H : Hp} {Q : VK} {i : Int} {a : Addr} {kvs : List (Key × V)} {is : List Int} (e : H a = some (.dK kvs)) (hv : kvs.map (·.2) = is.map V.int) (h : Q (.bl (!decide (i ∈ is))) H) : iInV true (.int i) (.ref a) H Q := k_inV e hv h
end Cm
namespace HT
open PySem PySem.Spec PyProof.Rows L2
/-! ### sum(lists, start) -/
def lsO (vs : List Value) (e : Nat) : Obj := { cls := .type "list", data := .seq vs.toArray e }
/-- the first i rows behind a start -/
def rowsTo (start : List Value) (row : Nat → List Value) : Nat → List Value
  | 0 => start
  | i + 1 => rowsTo start row i ++ row i
theorem rowsTo_len {start : List Value} {row : Nat → List Value} : ∀ {i n : Nat}, i ≤ n → (rowsTo start row i).length ≤ (rowsTo start row n).length
  | i, 0, h => by
    obtain rfl : i = 0 := by omega
    exact Nat.le_refl _
  | i, n + 1, h => by
    by_cases c : i = n + 1
    · rw [c]; exact Nat.le_refl _
    · have := rowsTo_len (start := start) (row := row) (show i ≤ n by omega)
      rw [rowsTo, List.length_append]
      omega
theorem a2_sum (a b : Value) : argsOk "sum" ⟨[a, b], []⟩ := by unfold argsOk; kernel_rfl
section
variable {prog : Program} {w : World} {A : Around} {E : Value → Shared → Prop} {s : Shared}
theorem cat_all {I : Addr} {fp wr : List Addr} {n : Nat} {P : Nat → Value → Prop} {St : Nat → Heap → Prop} {R : Result → Shared → Prop} {cs : Nat → Addr} {start : List Value} {row : Nat → List Value} {S : Addr} {h0 : Heap}
    (W : Walks prog w A.in1 I fp wr n P St) (hin : ∀ i v, P i v → v = .ref (cs i)) (hS : S ∉ fp) (hw : ∀ i h, St i h → ∀ b ∈ wr, b < h.objs.size) (rows : ∀ i, i < n → cs i ∉ wr ∧ cs i ≠ S ∧ ∃ e, h0.get? (cs i) = some (lsO (row i) e)) (room : (rowsTo start row n).length ≤ sizeLine) :
    ∀ (left i : Nat) (z : Shared) (T : Addr) (c e : Nat), i + left = n → St i z.heap → (∀ b o, b ∉ wr → b ≠ S → h0.get? b = some o → z.heap.get? b = some o) → z.heap.get? S = some { cls := .type "list", dict := none, data := .seq #[.ref T] c, slots := #[] } → T ∉ wr → T ≠ S → z.heap.get? T = some (lsO (rowsTo start row i) e) →
      (∀ T' h' k e', (left = 0 → T' = T) → (0 < left → ∀ q ∈ wr, q < T') → (∀ b o, b ∉ wr → b ≠ S → z.heap.get? b = some o → h'.get? b = some o) → h'.get? T' = some (lsO (rowsTo start row n) e') → R (.ok (.ret (.ref T'))) { z with heap := h', toks := k }) →
      codeAny (model prog w) A (.builtin "sum.loop" ⟨[.ref I, .ref S, rawInt 2, rawInt 0], []⟩) R z := by
  have hSw : S ∉ wr := fun h => hS (W.sub _ h)
  intro left
  induction left with
  | zero =>
    intro i z T c e hi st kp0 hz Tw TS eT fin
    obtain rfl : i = n := hi
    refine codeAny_builtin F.entry_sum_loop ?_
    rw [Around.under_plainId F.plain_sum_loop _]
    show wpAny _ A.in1 (seqItems? (.ref S) >>= _) _ _ z
    refine wpAny_bind (wpAny_seqItems hz rfl ?_)
    show wpAny _ A.in1 (tryCatch (pyNext (.ref I)) _ >>= _) _ _ z
    refine wpAny_bind (wpAny_tryCatch (W.done z _ _ st fun h' k kp => ?_))
    exact wpAny_pure (fin T h' k e (fun _ => rfl) (fun y => by omega) (fun b o hb _ y => kp b o hb y) (kp T _ Tw eT))
  | succ left ih =>
    intro i z T c e hi st kp0 hz Tw TS eT fin
    obtain ⟨cw, cS, e1, ec⟩ := rows i (by omega)
    refine codeAny_builtin F.entry_sum_loop ?_
    rw [Around.under_plainId F.plain_sum_loop _]
    show wpAny _ A.in1 (seqItems? (.ref S) >>= _) _ _ z
    refine wpAny_bind (wpAny_seqItems hz rfl ?_)
    show wpAny _ A.in1 (tryCatch (pyNext (.ref I)) _ >>= _) _ _ z
    refine wpAny_bind (wpAny_tryCatch (W.item i z _ _ (by omega) st fun v h' k pv st' kp => ?_))
    obtain rfl := hin i v pv
    have eS := kp S _ hSw hz
    have eT' := kp T _ Tw eT
    have ecz := kp (cs i) _ cw (kp0 (cs i) _ cw cS ec)
    have big : (rowsTo start row i).length + (row i).length ≤ sizeLine := by
      have := rowsTo_len (start := start) (row := row) (show i + 1 ≤ n by omega)
      rw [rowsTo, List.length_append] at this
      omega
    show wpAny _ A.in1 ((holding [Value.ref (cs i)] (binaryOp .Add (.ref T) (.ref (cs i)))).attempt >>= _) _ _ _
    refine wpAny_bind (wpAny_attempt (wpAny_holding (PySem.P.add_list eT' ecz ?_ (by rw [List.size_toArray, List.size_toArray]; exact big))))
    have ep : (rowsTo start row i).toArray ++ (row i).toArray = (rowsTo start row (i + 1)).toArray := by simp [rowsTo]
    rw [ep]
    have nS : S ≠ h'.objs.size := Nat.ne_of_lt (Heap.lt_size eS)
    have up : ∀ b o, h'.get? b = some o → (h'.push (lsO (rowsTo start row (i + 1)) 0)).get? b = some o := fun b o y => Heap.get?_push_of_some _ y
    have ePS := up S _ eS
    show wpAny _ A.in1 (updateSeq S (fun _ => #[.ref h'.objs.size]) >>= _) _ _ _
    refine wpAny_bind (wpAny_updateSeq ePS rfl ?_)
    have eS2 := Heap.get?_update_self (Obj.mapSeq fun _ => #[Value.ref h'.objs.size]) ePS rfl
    refine wpAny_bind (wpAny_letGo ?_)
    have keep2 : ∀ b o, b ≠ S → h'.get? b = some o → (((h'.push (lsO (rowsTo start row (i + 1)) 0)).update S (Obj.mapSeq fun _ => #[Value.ref h'.objs.size])).update S (Obj.mapSeq fun _ => #[Value.ref h'.objs.size])).get? b = some o := fun b o hb y =>
      (Heap.get?_update_other _ _ (Ne.symm hb)).trans ((Heap.get?_update_other _ _ (Ne.symm hb)).trans (up b o y))
    have eT2 : (((h'.push (lsO (rowsTo start row (i + 1)) 0)).update S (Obj.mapSeq fun _ => #[Value.ref h'.objs.size])).update S (Obj.mapSeq fun _ => #[Value.ref h'.objs.size])).get? h'.objs.size = some (lsO (rowsTo start row (i + 1)) 0) :=
      (Heap.get?_update_other _ _ nS).trans ((Heap.get?_update_other _ _ nS).trans (Heap.get?_push_size _ rfl))
    have big2 : ∀ b, b < h'.objs.size → b < (((h'.push (lsO (rowsTo start row (i + 1)) 0)).update S (Obj.mapSeq fun _ => #[Value.ref h'.objs.size])).update S (Obj.mapSeq fun _ => #[Value.ref h'.objs.size])).objs.size := fun b hb => by
      rw [Heap.size_update, Heap.size_update, Heap.size_push]
      omega
    refine wpAny_bind (wpAny_updateSeq eS2 rfl (wpAny_pure ⟨plainId_quiet F.plain_sum_loop _, ih (i + 1) _ h'.objs.size _ 0 (by omega) (W.frame _ _ _ st' fun b hb o y => keep2 b o (fun c => hS (c ▸ hb)) y) (fun b o hb hb2 y => keep2 b o hb2 (kp b o hb (kp0 b o hb hb2 y))) (Heap.get?_update_self _ eS2 rfl) ?_ (Ne.symm nS) eT2 fun T' h2 k2 e' h3 h4 h5 h6 => ?_⟩))
    · exact fun y => Nat.lt_irrefl _ (hw _ _ st' _ y)
    · refine fin T' h2 k2 e' (fun y => by omega) (fun _ q hq => ?_) (fun b o hb hb2 y => h5 b o hb hb2 (keep2 b o hb2 (kp b o hb y))) h6
      by_cases c0 : left = 0
      · rw [h3 c0]
        exact hw _ _ st' q hq
      · exact h4 (by omega) q hq
theorem nl_str : isSubtype (.type "list") (.type "str") = pure false := by rw [isSubtype_type]; kernel_rfl
theorem nl_bytes : isSubtype (.type "list") (.type "bytes") = pure false := by rw [isSubtype_type]; kernel_rfl
theorem nl_barr : isSubtype (.type "list") (.type "bytearray") = pure false := by rw [isSubtype_type]; kernel_rfl
theorem call_sumL {l b : Addr} {items : Array Value} {cs : Nat → Addr} {start : List Value} {row : Nat → List Value} {Q : Value → Shared → Prop} (hh : A.handled = none) (hl : s.heap.IsList l items) (hb : ∃ e, s.heap.get? b = some (lsO start e)) (hin : ∀ (i : Nat) v, items[i]? = some v → v = .ref (cs i)) (rows : ∀ i, i < items.size → ∃ e, s.heap.get? (cs i) = some (lsO (row i) e)) (room : (rowsTo start row items.size).length ≤ sizeLine)
    (fin : ∀ T h' k e', (items.size = 0 → T = b) → (0 < items.size → s.heap.objs.size ≤ T) → (∀ c o, s.heap.get? c = some o → h'.get? c = some o) → h'.get? T = some (lsO (rowsTo start row items.size) e') → Q (.ref T) { s with heap := h', toks := k }) :
    wpAny (model prog w) A (call (.builtin "sum") [.ref l, .ref b]) Q E s := by
  obtain ⟨eb, hb⟩ := hb
  refine call_function_tree F.kind_sum F.plain_sum F.entry_sum (a2_sum _ _) ?_
  unfold Builtin.«sum»
  simp only [List.length_cons, List.length_nil]
  rw [if_neg (by decide)]
  refine wpAny_bind (wpAny_of_eq (show Builtin.Builtins.bindParams "sum" ["start"] 0 ⟨[.ref b], []⟩ = pure [some (.ref b)] from rfl) ?_)
  refine wpAny_bind (wpAny_pyIter_list hl ?_)
  have lt : ∀ {c o}, s.heap.get? c = some o → c < s.heap.objs.size := fun e => Heap.lt_size e
  have up : ∀ c o, s.heap.get? c = some o → (s.heap.push { cls := .type "list_iterator", data := .fields #[.ref l, .int 0 0] }).get? c = some o := fun c o y => Heap.get?_push_of_some _ y
  have ty : ({ s with heap := s.heap.push { cls := .type "list_iterator", data := .fields #[.ref l, .int 0 0] } } : Shared).TypeIs (.ref b) "list" := ⟨_, up b _ hb, rfl⟩
  refine wpAny_bind (wpAny_pure ?_)
  simp only [List.forIn_cons, List.forIn_nil]
  refine wpAny_bind (wpAny_bind (wpAny_bind (wpAny_isInstance (T := "list") (b := false) ty nl_str ?_)))
  simp only [Bool.false_eq_true, if_false]
  refine wpAny_pure (wpAny_bind (wpAny_bind (wpAny_isInstance (T := "list") (b := false) ty nl_bytes ?_)))
  simp only [Bool.false_eq_true, if_false]
  refine wpAny_pure (wpAny_bind (wpAny_bind (wpAny_isInstance (T := "list") (b := false) ty nl_barr ?_)))
  simp only [Bool.false_eq_true, if_false]
  refine wpAny_pure (wpAny_pure ?_)
  refine wpAny_bind (wpAny_newObj_type ?_)
  obtain ⟨ol, hol, _⟩ := id hl
  have ltl := lt hol
  have sz : (s.heap.push { cls := .type "list_iterator", data := .fields #[.ref l, .int 0 0] }).objs.size = s.heap.objs.size + 1 := Heap.size_push _ _
  refine wpAny_pure ⟨plainId_quiet F.plain_sum_loop _, ?_⟩
  have up2 : ∀ c o, s.heap.get? c = some o → ((s.heap.push { cls := .type "list_iterator", data := .fields #[.ref l, .int 0 0] }).push { cls := .type "list", data := .seq #[.ref b] }).get? c = some o := fun c o y => Heap.get?_push_of_some _ (up c o y)
  have ne0 : ∀ {c : Addr}, c < s.heap.objs.size → c ∉ [s.heap.objs.size] := fun h hc => Nat.ne_of_lt h (List.mem_singleton.mp hc)
  have ne1 : ∀ {c : Addr}, c < s.heap.objs.size → c ≠ s.heap.objs.size + 1 := fun h => Nat.ne_of_lt (Nat.lt_succ_of_lt h)
  refine cat_all (h0 := s.heap) (start := start) (row := row) (Walks.list (prog := prog) (w := w) (A := A.in1) hh s.heap.objs.size l (Nat.ne_of_lt ltl) items) hin ?_ ?_ (fun i hi => ?_) room items.size 0 _ b 0 eb (by omega) ⟨⟨_, Heap.get?_push_of_some _ (Heap.get?_push_size _ rfl), rfl, rfl⟩, (hl.push _).push _⟩ (fun c o _ _ y => up2 c o y) (Heap.get?_push_size _ rfl) ?_ ?_ (up2 b _ hb) (fun T h' k e' h3 h4 h5 h6 => ?_)
  · simp only [List.mem_cons, List.not_mem_nil, or_false, not_or]
    constructor
    · show (s.heap.push _).objs.size ≠ _
      rw [sz]
      exact Nat.succ_ne_self _
    · show (s.heap.push _).objs.size ≠ _
      rw [sz]
      exact (ne1 ltl).symm
  · intro i h st c hc
    rw [show c = s.heap.objs.size from List.mem_singleton.mp hc]
    obtain ⟨⟨o, ho, _⟩, _⟩ := st
    exact Heap.lt_size ho
  · obtain ⟨e, he⟩ := rows i hi
    refine ⟨ne0 (lt he), ?_, e, he⟩
    show cs i ≠ (s.heap.push _).objs.size
    rw [sz]
    exact ne1 (lt he)
  · exact ne0 (lt hb)
  · show b ≠ (s.heap.push _).objs.size
    rw [sz]
    exact ne1 (lt hb)
  · refine fin T h' k e' h3 (fun hp => Nat.le_of_lt (h4 hp _ (List.mem_singleton.mpr rfl))) (fun c o y => ?_) h6
    · refine h5 c o (ne0 (lt y)) ?_ (up2 c o y)
      show c ≠ (s.heap.push _).objs.size
      rw [sz]
      exact ne1 (lt y)
end
end HT
namespace Cm
open PySem PySem.Spec PyProof.Rows L2
def rSumL (K : PySem.W.Frag) : List V → Hp → VK → Prop := fun vs H Q => ∃ (a b : Addr) (cs : List Addr) (rows : List (List V)) (st : List V), vs = [V.ref a, V.ref b] ∧ SqL K H a (cs.map V.ref) ∧ H b = some (.lst st) ∧ cs.length = rows.length ∧ (∀ (i : Nat) c r, cs[i]? = some c → rows[i]? = some r → H c = some (.lst r)) ∧ (st ++ rows.flatten).length ≤ 100000 ∧
  (rows = [] → Q (.ref b) H) ∧ (rows ≠ [] → ∀ p, H p = none → Q (.ref p) (upd H p (.lst (st ++ rows.flatten))))
theorem vals_at {xs : List V} {us : List Value} (h : Vals xs us) : ∀ {i : Nat} {u : Value}, us[i]? = some u → ∃ x, xs[i]? = some x ∧ RelV x u := by
  induction h with
  | nil => intro i u e; simp at e
  | cons r t ih =>
    intro i u e
    cases i with
    | zero =>
      simp only [List.getElem?_cons_zero, Option.some.injEq] at e
      subst e
      exact ⟨_, rfl, r⟩
    | succ i => exact ih (by simpa using e)
theorem rows_vals {st : List V} {rows : List (List V)} {start : List Value} {row : Nat → List Value} (h0 : Vals st start) (hr : ∀ i, i < rows.length → Vals (rows.getD i []) (row i)) : ∀ i, i ≤ rows.length → Vals (st ++ (rows.take i).flatten) (HT.rowsTo start row i)
  | 0, _ => by
    show Vals (st ++ (rows.take 0).flatten) start
    simpa using h0
  | i + 1, h => by
    have ih := rows_vals h0 hr i (by omega)
    have e : rows.take (i + 1) = rows.take i ++ [rows.getD i []] := by
      rw [List.take_add_one, List.getD_eq_getElem?_getD, List.getElem?_eq_getElem (show i < rows.length by omega)]; rfl
    rw [e, List.flatten_append, ← List.append_assoc]
    show Vals _ (HT.rowsTo start row i ++ row i)
    simpa using ih.append (hr i (by omega))
open Classical in
theorem cr_sumL {X : Cx} (hc : X.calm = true) : CallR X (.builtin "sum") (rSumL X.K) := by
  intro pins s σ H vs us Q I r h
  obtain ⟨a, b, cs, rows, st, rfl, hs, hb, hl, hrow, hz, q0, q1⟩ := h
  obtain ⟨its, rv, isl, _⟩ := I.list hs
  obtain ⟨z1, start, e1, r1, l1, g1⟩ := I.lstM hb
  obtain ⟨u1, u2, rfl, ra, rb⟩ := vals2 r
  obtain rfl : u1 = Value.ref a := ra
  obtain rfl : u2 = Value.ref b := rb
  have ln : its.toArray.size = rows.length := by rw [List.size_toArray, ← rv.length, List.length_map, hl]
  have each : ∀ i, i < rows.length → ∃ vsi e, Vals (rows.getD i []) vsi ∧ s.heap.get? (cs.getD i 0) = some (HT.lsO vsi e) := fun i hi => by
    have hc' : cs[i]? = some (cs.getD i 0) := by rw [List.getD_eq_getElem?_getD, List.getElem?_eq_getElem (by omega)]; rfl
    have hr' : rows[i]? = some (rows.getD i []) := by rw [List.getD_eq_getElem?_getD, List.getElem?_eq_getElem hi]; rfl
    obtain ⟨_, its', n', r', _, g'⟩ := I.lstM (hrow i _ _ hc' hr')
    exact ⟨its', n', r', g'⟩
  let row : Nat → List Value := fun i => if h : i < rows.length then (each i h).choose else []
  have hrv : ∀ i, (h : i < rows.length) → Vals (rows.getD i []) (row i) ∧ ∃ e, s.heap.get? (cs.getD i 0) = some (HT.lsO (row i) e) := fun i h => by
    have := (each i h).choose_spec
    have er : row i = (each i h).choose := dif_pos h
    rw [er]
    obtain ⟨e, p1, p2⟩ := this
    exact ⟨p1, e, p2⟩
  have rvs := rows_vals r1 (fun i h => (hrv i h).1)
  have full := rvs rows.length (Nat.le_refl _)
  rw [List.take_length] at full
  have line : (st ++ rows.flatten).length ≤ sizeLine := sz hz
  refine HT.call_sumL (I.ok.hd hc) (cs := fun i => cs.getD i 0) (start := start) (row := row) isl.isList ⟨e1, g1⟩ (fun i v hv => ?_) (fun i hi => (hrv i (by omega)).2) (by rw [ln, ← full.length]; exact line) (fun T h' k e' t0 t1 kp eT => ?_)
  · obtain ⟨x, hx, rx⟩ := vals_at rv (by simpa using hv)
    rw [List.getElem?_map] at hx
    obtain ⟨c, hc', rfl⟩ := Option.map_eq_some_iff.mp hx
    rw [List.getD_eq_getElem?_getD, hc']
    exact rx
  · rw [ln] at eT t0 t1
    by_cases c : rows = []
    · rw [t0 (by rw [c]; rfl)]
      exact ⟨.ref b, H, I.kept kp, rfl, q0 c⟩
    · have lp : 0 < rows.length := List.length_pos_iff.mpr c
      have ge : s.heap.objs.size ≤ T := t1 lp
      exact ⟨.ref T, upd H T (.lst (st ++ rows.flatten)), I.laid kp ge ⟨line, _, e', full, eT⟩, rfl, q1 c T (I.hok.fresh ge)⟩
end Cm
namespace Cm
open PySem PySem.Spec PyProof.Rows L2
theorem k_sumL {K : PySem.W.Frag} {H : Hp} {Q : VK} {a b : Addr} {cs : List Addr} {rows : List (List V)} {st : List V} (hs : SqL K H a (cs.map V.ref)) (hb : H b = some (.lst st)) (hl : cs.length = rows.length) (hr : ∀ (i : Nat) c r, cs[i]? = some c → rows[i]? = some r → H c = some (.lst r)) (hz : (st ++ rows.flatten).length ≤ 100000)
    (h : ∀ p H', (p = b ∨ H p = none) → Same H H' → H' p = some (.lst (st ++ rows.flatten)) → Q (.ref p) H') : rSumL K [.ref a, .ref b] H Q :=
  ⟨a, b, cs, rows, st, rfl, hs, hb, hl, hr, hz, fun e => h b H (.inl rfl) (Same.refl _) (by rw [e]; simpa using hb), fun _ p np => h p _ (.inr np) (same_new np) upd_same⟩
end Cm

namespace Pf
open PySem PySem.Spec PyProof.Rows L2 Cm
local macro_rules | `(tactic| wtm_at "smh") => `(tactic| with_reducible first
  | assumption
  | (refine Same.trans ?_ (by assumption); wtm_at "smx")
  | (refine Same.trans ?_ (hid_mono (by assumption)); wtm_at "smx"))
local macro_rules | `(tactic| wtm_at "smx") => `(tactic| with_reducible first
  | exact Same.refl _
  | assumption
  | exact hid_same _ _
  | (refine Same.trans ?_ (by assumption); wtm_at "smx")
  | (refine Same.trans ?_ (hid_mono (by assumption)); wtm_at "smx")
  | (apply hid_back; wtm_at "smh"))
local macro_rules | `(tactic| wtm_at "sm") => `(tactic| wtm_at "smx")
local macro_rules | `(tactic| wtm_at "at") => `(tactic| with_reducible first
  | assumption
  | exact upd_same
  | (refine at_same (by assumption) ?_; wtm_at "smx"))
local macro_rules | `(tactic| wtm_at "le") => `(tactic| with_reducible first
  | assumption
  | (refine Le.same (by assumption) ?_; wtm_at "smx"))
local macro_rules | `(tactic| wtm_at "dp") => `(tactic| with_reducible first
  | assumption
  | exact .int _
  | exact .str _
  | exact .bl _
  | (refine dp_same ?_ (by assumption); wtm_at "smx")
  | (refine dpa_same ?_ (by assumption); wtm_at "smx")
  | (refine dpI_at (by assumption) ?_; wtm_at "smx")
  | (refine dpP_at (by assumption) ?_; wtm_at "smx"))
local macro_rules | `(tactic| wtm_at "sq") => `(tactic| with_reducible first
  | assumption
  | exact sl (by assumption)
  | exact stp (by assumption)
  | (refine sl_at (by assumption) ?_; wtm_at "smx")
  | (refine st_at (by assumption) ?_; wtm_at "smx")
  | (refine Same.seq ?_ (by assumption); wtm_at "smx")
  | (refine same_seqT ?_ (by assumption); wtm_at "smx")
  | ((show SqL _ (upd _ _ _) _ _); exact sl upd_same)
  | ((show SqT _ (upd _ _ _) _ _); exact stp upd_same))
local macro_rules | `(tactic| wtm_at "cI") => `(tactic| first
  | (refine Or.inl ⟨?_, ?_⟩ <;> omega)
  | (refine Or.inr ⟨?_, ?_⟩ <;> omega)
  | (refine ⟨?_, ?_⟩ <;> omega)
  | decide)
local macro_rules | `(tactic| wtm_at "pf") => `(tactic| first | omega | decide)
local macro_rules | `(tactic| wtm_at "s2") => `(tactic| with_reducible first
  | ((show ite _ _ _); first
    | refine k_itDT (by with_unfolding_all wtm_at "pf") ?_
    | refine k_itDF (by with_unfolding_all wtm_at "pf") ?_
    | refine k_itNT (by with_unfolding_all wtm_at "pf") ?_
    | refine k_itNF (by with_unfolding_all wtm_at "pf") ?_)
  | ((show rLenX _ _ _ _); first
    | refine k_len0 (by assumption) ?_
    | refine k_lenI (by wtm_at "sq") ?_
    | refine k_len (by wtm_at "sq") ?_)
  | ((show gTup _ _ _ _ _ _ _); refine k_gtup (by wtm_at "sq") (by with_unfolding_all rfl) ?_)
  | ((show rIxT _ (V.ref _) (V.int _) _ _); refine k_ixT (by wtm_at "sq") (by with_unfolding_all rfl) ?_)
  | ((show wipe _ _ = wipe _ _ ∧ _); refine k_wipe (by with_unfolding_all rfl) ?_)
  | ((show rIn _ _ _ _ _ _); first
    | refine k_inI (by wtm_at "sq") ?_
    | refine k_notInI (by wtm_at "sq") ?_)
  | ((show rIsi _ _ _ _); refine k_isiL (by wtm_at "sq") ?_)
  | ((show xMod _ _ _ _); refine k_mod (by with_unfolding_all first | decide | omega) ?_)
  | ((show xMul _ _ _ _); refine k_mul (by with_unfolding_all wtm_at "cI") ?_)
  | ((show xDiv _ _ _ _); refine k_div (by with_unfolding_all wtm_at "cI") ?_)
  | ((show xPow _ _ _ _); refine k_pow (by with_unfolding_all exact ⟨by decide, by decide, by decide⟩) ?_)
  | ((show rMinT _ _ _ _); refine k_minT (by wtm_at "sq") ?_)
  | ((show rMaxT _ _ _ _); refine k_maxT (by wtm_at "sq") ?_)
  | ((show ∃ j' : Int, [V.int _] = [.int j'] ∧ _); refine k_rj1 (by with_unfolding_all omega) (by with_unfolding_all omega) ?_)
  | ((show ∃ i' j' : Int, [V.int _, V.int _] = [.int i', .int j'] ∧ _); refine k_rj2 (by with_unfolding_all omega) ?_))
local macro_rules | `(tactic| wtm_at "s1") => `(tactic| first
  | refine go ?_
  | wtm_at "s2")
local macro_rules | `(tactic| wtm_at "s") => `(tactic| repeat wtm_at "s1")
def topS (i : Nat) : Stmt := PySem.Challenge.pw_tiehues_k41_trees_refused.main.body.getD i (.Pass ⟨0, 0, 0, 0⟩)
abbrev s_must_be_crossing : Stmt := topS 19
theorem sc_must_be_crossing : FnScope ["crossing", "many", "pairs", "s", "t"] ["crossing"] (defScope s_must_be_crossing) := ⟨rfl, rfl, rfl, by decide +kernel, rfl, by decide +kernel, by decide +kernel⟩
abbrev s_load_at : Stmt := topS 20
theorem sc_load_at : FnScope ["crossing", "many", "pairs", "tie", "pair"] ["crossing"] (defScope s_load_at) := ⟨rfl, rfl, rfl, by decide +kernel, rfl, by decide +kernel, by decide +kernel⟩
abbrev s_cross_hues : Stmt := topS 22
theorem sc_cross_hues : FnScope ["crossing", "meeting", "k"] ["crossing"] (defScope s_cross_hues) := ⟨rfl, rfl, rfl, by decide +kernel, rfl, by decide +kernel, by decide +kernel⟩
abbrev s_is_tree : Stmt := topS 25
theorem sc_is_tree : FnScope ["parents", "k"] ["parents"] (defScope s_is_tree) := ⟨rfl, rfl, rfl, by decide +kernel, rfl, by decide +kernel, by decide +kernel⟩
abbrev s_look_net : Stmt := topS 26
theorem sc_look_net : FnScope ["net", "kind", "size", "right"] ["net"] (defScope s_look_net) := ⟨rfl, rfl, rfl, by decide +kernel, rfl, by decide +kernel, by decide +kernel⟩
abbrev s_must_be_kind : Stmt := topS 27
theorem sc_must_be_kind : FnScope ["net", "kind"] ["net", "kind"] (defScope s_must_be_kind) := ⟨rfl, rfl, rfl, by decide +kernel, rfl, by decide +kernel, by decide +kernel⟩
abbrev s_places_of : Stmt := topS 28
theorem sc_places_of : FnScope ["net"] ["net"] (defScope s_places_of) := ⟨rfl, rfl, rfl, by decide +kernel, rfl, by decide +kernel, by decide +kernel⟩
abbrev s_is_way : Stmt := topS 29
theorem sc_is_way : FnScope ["net", "way", "a", "b"] ["net", "way"] (defScope s_is_way) := ⟨rfl, rfl, rfl, by decide +kernel, rfl, by decide +kernel, by decide +kernel⟩
abbrev s_ties_on : Stmt := topS 30
theorem sc_ties_on : FnScope ["net", "way", "a", "b", "found"] ["net", "way"] (defScope s_ties_on) := ⟨rfl, rfl, rfl, by decide +kernel, rfl, by decide +kernel, by decide +kernel⟩
abbrev s_must_be_ways : Stmt := topS 31
theorem sc_must_be_ways : FnScope ["net", "ways", "k"] ["net", "ways"] (defScope s_must_be_ways) := ⟨rfl, rfl, rfl, by decide +kernel, rfl, by decide +kernel, by decide +kernel⟩
abbrev s_ties_at : Stmt := topS 34
theorem sc_ties_at : FnScope ["net", "place", "parents", "k"] ["net", "place"] (defScope s_ties_at) := ⟨rfl, rfl, rfl, by decide +kernel, rfl, by decide +kernel, by decide +kernel⟩
abbrev s_crossing_of : Stmt := topS 35
theorem sc_crossing_of : FnScope ["net", "ways", "place", "here", "pairs", "numbers", "k", "some", "tie"] ["net", "ways", "place"] (defScope s_crossing_of) := ⟨rfl, rfl, rfl, by decide +kernel, rfl, by decide +kernel, by decide +kernel⟩
abbrev s_crossing_at : Stmt := topS 36
theorem sc_crossing_at : FnScope ["net", "ways", "place"] ["net", "ways", "place"] (defScope s_crossing_at) := ⟨rfl, rfl, rfl, by decide +kernel, rfl, by decide +kernel, by decide +kernel⟩
abbrev s_put_together : Stmt := topS 37
theorem sc_put_together : FnScope ["net", "ways", "lists", "most", "given", "place", "crossing", "numbers", "names", "k", "left", "hue"] ["net", "ways", "lists"] (defScope s_put_together) := ⟨rfl, rfl, rfl, by decide +kernel, rfl, by decide +kernel, by decide +kernel⟩
abbrev s_join_hues : Stmt := topS 39
theorem sc_join_hues : FnScope ["net", "ways", "lists", "place"] ["net", "ways", "lists"] (defScope s_join_hues) := ⟨rfl, rfl, rfl, by decide +kernel, rfl, by decide +kernel, by decide +kernel⟩
abbrev s_tree_hues : Stmt := topS 40
theorem sc_tree_hues : FnScope ["net", "ways", "place"] ["net", "ways"] (defScope s_tree_hues) := ⟨rfl, rfl, rfl, by decide +kernel, rfl, by decide +kernel, by decide +kernel⟩
abbrev s_law_purse : Stmt := topS 42
theorem sc_law_purse : FnScope ["_law_script", "_law_cells"] ["_law_script"] (defScope s_law_purse) := ⟨rfl, rfl, rfl, by decide +kernel, rfl, by decide +kernel, by decide +kernel⟩
abbrev s_law_draw : Stmt := topS 43
theorem sc_law_draw : FnScope ["_law_purse_here", "_law_out_of", "_law_cells", "_law_turn", "_law_at", "_law_cell", "_law_number", "_law_other"] ["_law_purse_here", "_law_out_of"] (defScope s_law_draw) := ⟨rfl, rfl, rfl, by decide +kernel, rfl, by decide +kernel, by decide +kernel⟩
abbrev s_law_tree : Stmt := topS 44
theorem sc_law_tree : FnScope ["_law_purse_here", "_law_many", "_law_way", "_law_parents", "_law_k", "_law_one"] ["_law_purse_here"] (defScope s_law_tree) := ⟨rfl, rfl, rfl, by decide +kernel, rfl, by decide +kernel, by decide +kernel⟩
abbrev s_law_ways : Stmt := topS 45
theorem sc_law_ways : FnScope ["_law_purse_here", "_law_places", "_law_most", "_law_found", "_law_k", "_law_one"] ["_law_purse_here", "_law_places", "_law_most"] (defScope s_law_ways) := ⟨rfl, rfl, rfl, by decide +kernel, rfl, by decide +kernel, by decide +kernel⟩
abbrev s_law_no_net : Stmt := topS 46
theorem sc_law_no_net : FnScope ["_law_purse_here", "_law_parents", "_law_at", "_law_far", "_law_bad", "_law_some", "_law_one"] ["_law_purse_here", "_law_parents"] (defScope s_law_no_net) := ⟨rfl, rfl, rfl, by decide +kernel, rfl, by decide +kernel, by decide +kernel⟩
abbrev s_law_no_ways : Stmt := topS 47
theorem sc_law_no_ways : FnScope ["_law_purse_here", "_law_ways_here", "_law_places", "_law_found", "_law_turn", "_law_far", "_law_one", "_law_bad"] ["_law_purse_here", "_law_ways_here", "_law_places"] (defScope s_law_no_ways) := ⟨rfl, rfl, rfl, by decide +kernel, rfl, by decide +kernel, by decide +kernel⟩
abbrev s_law_first_none : Stmt := topS 48
theorem sc_law_first_none : FnScope ["_law_ways_here", "_law_places", "_law_k", "_law_one", "_law_other"] ["_law_ways_here", "_law_places"] (defScope s_law_first_none) := ⟨rfl, rfl, rfl, by decide +kernel, rfl, by decide +kernel, by decide +kernel⟩
abbrev s_law_marks : Stmt := topS 49
theorem sc_law_marks : FnScope ["_law_caught", "_law_some", "_law_words", "_law_found", "_law_word", "_law_truth"] ["_law_caught"] (defScope s_law_marks) := ⟨rfl, rfl, rfl, by decide +kernel, rfl, by decide +kernel, by decide +kernel⟩
abbrev s_law_refused : Stmt := topS 50
theorem sc_law_refused : FnScope ["_law_which", "_law_net", "_law_ways_here", "_law_place", "_law_caught", "e"] ["_law_which", "_law_net", "_law_ways_here", "_law_place"] (defScope s_law_refused) := ⟨rfl, rfl, rfl, by decide +kernel, rfl, by decide +kernel, by decide +kernel⟩
abbrev s_law_all : Stmt := topS 51
theorem sc_law_all : FnScope ["_law_net", "_law_ways_here", "_law_place", "_law_due", "_law_handed", "_law_some", "_law_which"] ["_law_net", "_law_ways_here", "_law_place", "_law_due"] (defScope s_law_all) := ⟨rfl, rfl, rfl, by decide +kernel, rfl, by decide +kernel, by decide +kernel⟩
abbrev s_law : Stmt := topS 52
theorem sc_law : FnScope ["_law_script", "_law_purse_here", "_law_turn", "_law_parents", "_law_places", "_law_ways_here", "_law_net", "_law_wrong", "_law_place", "_law_none", "_law_other", "_law_due"] ["_law_script"] (defScope s_law) := ⟨rfl, rfl, rfl, by decide +kernel, rfl, by decide +kernel, by decide +kernel⟩
abbrev s_Meeting_init : Stmt := inClass (topS 21) 0
theorem sc_Meeting_init : FnScope ["self", "pairs", "most"] ["self", "pairs", "most"] (defScope s_Meeting_init) := ⟨rfl, rfl, rfl, by decide +kernel, rfl, by decide +kernel, by decide +kernel⟩
abbrev s_Meeting_by : Stmt := inClass (topS 21) 1
theorem sc_Meeting_by : FnScope ["self", "tie", "hue", "k"] ["self", "tie", "hue"] (defScope s_Meeting_by) := ⟨rfl, rfl, rfl, by decide +kernel, rfl, by decide +kernel, by decide +kernel⟩
abbrev s_Meeting_free : Stmt := inClass (topS 21) 2
theorem sc_Meeting_free : FnScope ["self", "tie", "hue"] ["self", "tie"] (defScope s_Meeting_free) := ⟨rfl, rfl, rfl, by decide +kernel, rfl, by decide +kernel, by decide +kernel⟩
abbrev s_Meeting_chain : Stmt := inClass (topS 21) 3
theorem sc_Meeting_chain : FnScope ["self", "tie", "hue", "other", "found", "k", "s", "t"] ["self", "tie", "hue", "other"] (defScope s_Meeting_chain) := ⟨rfl, rfl, rfl, by decide +kernel, rfl, by decide +kernel, by decide +kernel⟩
abbrev s_Meeting_exchange : Stmt := inClass (topS 21) 4
theorem sc_Meeting_exchange : FnScope ["self", "some", "hue", "other", "k"] ["self", "some", "hue", "other"] (defScope s_Meeting_exchange) := ⟨rfl, rfl, rfl, by decide +kernel, rfl, by decide +kernel, by decide +kernel⟩
abbrev s_Meeting_direct : Stmt := inClass (topS 21) 5
theorem sc_Meeting_direct : FnScope ["self", "k", "s", "t", "ahead", "behind", "both", "a", "b", "some", "end", "hue"] ["self", "k"] (defScope s_Meeting_direct) := ⟨rfl, rfl, rfl, by decide +kernel, rfl, by decide +kernel, by decide +kernel⟩
abbrev s_Meeting_round_about : Stmt := inClass (topS 21) 6
theorem sc_Meeting_round_about : FnScope ["self", "k", "s", "t", "b", "other", "first", "last"] ["self", "k"] (defScope s_Meeting_round_about) := ⟨rfl, rfl, rfl, by decide +kernel, rfl, by decide +kernel, by decide +kernel⟩
abbrev s_Meeting_freed : Stmt := inClass (topS 21) 7
theorem sc_Meeting_freed : FnScope ["self", "s", "t", "z", "a", "beyond", "c", "some", "end", "hue"] ["self", "s", "t", "z"] (defScope s_Meeting_freed) := ⟨rfl, rfl, rfl, by decide +kernel, rfl, by decide +kernel, by decide +kernel⟩
abbrev s_Meeting_put : Stmt := inClass (topS 21) 8
theorem sc_Meeting_put : FnScope ["self", "k"] ["self", "k"] (defScope s_Meeting_put) := ⟨rfl, rfl, rfl, by decide +kernel, rfl, by decide +kernel, by decide +kernel⟩
abbrev s_init_NoWay : Stmt := inClass (topS 4) 0
theorem sc_init_NoWay : FnScope ["self", "at"] ["self", "at"] (defScope s_init_NoWay) := ⟨rfl, rfl, rfl, by decide +kernel, rfl, by decide +kernel, by decide +kernel⟩
abbrev s_init_NoHues : Stmt := inClass (topS 6) 0
theorem sc_init_NoHues : FnScope ["self", "place"] ["self", "place"] (defScope s_init_NoHues) := ⟨rfl, rfl, rfl, by decide +kernel, rfl, by decide +kernel, by decide +kernel⟩
abbrev s_init_NoText : Stmt := inClass (topS 13) 0
theorem sc_init_NoText : FnScope ["self", "row"] ["self", "row"] (defScope s_init_NoText) := ⟨rfl, rfl, rfl, by decide +kernel, rfl, by decide +kernel, by decide +kernel⟩
structure Ad where
  c_TieError : Addr
  c_NoNet : Addr
  c_OtherNet : Addr
  c_NoWay : Addr
  c_TooMany : Addr
  c_NoHues : Addr
  c_NoCrossing : Addr
  c_NoLot : Addr
  c_NoPlace : Addr
  c_NoNumber : Addr
  c_NoTurning : Addr
  c_NoTie : Addr
  c_NoText : Addr
  c_NoRow : Addr
  c_NoName : Addr
  i_NoWay : Addr
  di_NoWay : FuncData
  i_NoHues : Addr
  di_NoHues : FuncData
  i_NoText : Addr
  di_NoText : FuncData
  c_Meeting : Addr
  a_must_be_crossing : Addr
  d_must_be_crossing : FuncData
  a_load_at : Addr
  d_load_at : FuncData
  a_cross_hues : Addr
  d_cross_hues : FuncData
  a_is_tree : Addr
  d_is_tree : FuncData
  a_look_net : Addr
  d_look_net : FuncData
  a_must_be_kind : Addr
  d_must_be_kind : FuncData
  a_places_of : Addr
  d_places_of : FuncData
  a_is_way : Addr
  d_is_way : FuncData
  a_ties_on : Addr
  d_ties_on : FuncData
  a_must_be_ways : Addr
  d_must_be_ways : FuncData
  a_ties_at : Addr
  d_ties_at : FuncData
  a_crossing_of : Addr
  d_crossing_of : FuncData
  a_crossing_at : Addr
  d_crossing_at : FuncData
  a_put_together : Addr
  d_put_together : FuncData
  a_join_hues : Addr
  d_join_hues : FuncData
  a_tree_hues : Addr
  d_tree_hues : FuncData
  a_law_purse : Addr
  d_law_purse : FuncData
  a_law_draw : Addr
  d_law_draw : FuncData
  a_law_tree : Addr
  d_law_tree : FuncData
  a_law_ways : Addr
  d_law_ways : FuncData
  a_law_no_net : Addr
  d_law_no_net : FuncData
  a_law_no_ways : Addr
  d_law_no_ways : FuncData
  a_law_first_none : Addr
  d_law_first_none : FuncData
  a_law_marks : Addr
  d_law_marks : FuncData
  a_law_refused : Addr
  d_law_refused : FuncData
  a_law_all : Addr
  d_law_all : FuncData
  a_law : Addr
  d_law : FuncData
  a_Meeting_init : Addr
  d_Meeting_init : FuncData
  a_Meeting_by : Addr
  d_Meeting_by : FuncData
  a_Meeting_free : Addr
  d_Meeting_free : FuncData
  a_Meeting_chain : Addr
  d_Meeting_chain : FuncData
  a_Meeting_exchange : Addr
  d_Meeting_exchange : FuncData
  a_Meeting_direct : Addr
  d_Meeting_direct : FuncData
  a_Meeting_round_about : Addr
  d_Meeting_round_about : FuncData
  a_Meeting_freed : Addr
  d_Meeting_freed : FuncData
  a_Meeting_put : Addr
  d_Meeting_put : FuncData
structure Txt (K : PySem.W.Frag) (mg : Str → Option Value) (A : Ad) : Prop where
  g_must_be_crossing : mg "must_be_crossing" = some (.ref A.a_must_be_crossing)
  F_must_be_crossing : Fun K "must_be_crossing" "must_be_crossing" s_must_be_crossing A.a_must_be_crossing A.d_must_be_crossing
  b_must_be_crossing : Binds K A.d_must_be_crossing ["crossing"] []
  g_load_at : mg "load_at" = some (.ref A.a_load_at)
  F_load_at : Fun K "load_at" "load_at" s_load_at A.a_load_at A.d_load_at
  b_load_at : Binds K A.d_load_at ["crossing"] []
  g_cross_hues : mg "cross_hues" = some (.ref A.a_cross_hues)
  F_cross_hues : Fun K "cross_hues" "cross_hues" s_cross_hues A.a_cross_hues A.d_cross_hues
  b_cross_hues : Binds K A.d_cross_hues ["crossing"] []
  g_is_tree : mg "is_tree" = some (.ref A.a_is_tree)
  F_is_tree : Fun K "is_tree" "is_tree" s_is_tree A.a_is_tree A.d_is_tree
  b_is_tree : Binds K A.d_is_tree ["parents"] []
  g_look_net : mg "look_net" = some (.ref A.a_look_net)
  F_look_net : Fun K "look_net" "look_net" s_look_net A.a_look_net A.d_look_net
  b_look_net : Binds K A.d_look_net ["net"] []
  g_must_be_kind : mg "must_be_kind" = some (.ref A.a_must_be_kind)
  F_must_be_kind : Fun K "must_be_kind" "must_be_kind" s_must_be_kind A.a_must_be_kind A.d_must_be_kind
  b_must_be_kind : Binds K A.d_must_be_kind ["net", "kind"] []
  g_places_of : mg "places_of" = some (.ref A.a_places_of)
  F_places_of : Fun K "places_of" "places_of" s_places_of A.a_places_of A.d_places_of
  b_places_of : Binds K A.d_places_of ["net"] []
  g_is_way : mg "is_way" = some (.ref A.a_is_way)
  F_is_way : Fun K "is_way" "is_way" s_is_way A.a_is_way A.d_is_way
  b_is_way : Binds K A.d_is_way ["net", "way"] []
  g_ties_on : mg "ties_on" = some (.ref A.a_ties_on)
  F_ties_on : Fun K "ties_on" "ties_on" s_ties_on A.a_ties_on A.d_ties_on
  b_ties_on : Binds K A.d_ties_on ["net", "way"] []
  g_must_be_ways : mg "must_be_ways" = some (.ref A.a_must_be_ways)
  F_must_be_ways : Fun K "must_be_ways" "must_be_ways" s_must_be_ways A.a_must_be_ways A.d_must_be_ways
  b_must_be_ways : Binds K A.d_must_be_ways ["net", "ways"] []
  g_ties_at : mg "ties_at" = some (.ref A.a_ties_at)
  F_ties_at : Fun K "ties_at" "ties_at" s_ties_at A.a_ties_at A.d_ties_at
  b_ties_at : Binds K A.d_ties_at ["net", "place"] []
  g_crossing_of : mg "crossing_of" = some (.ref A.a_crossing_of)
  F_crossing_of : Fun K "crossing_of" "crossing_of" s_crossing_of A.a_crossing_of A.d_crossing_of
  b_crossing_of : Binds K A.d_crossing_of ["net", "ways", "place"] []
  g_crossing_at : mg "crossing_at" = some (.ref A.a_crossing_at)
  F_crossing_at : Fun K "crossing_at" "crossing_at" s_crossing_at A.a_crossing_at A.d_crossing_at
  b_crossing_at : Binds K A.d_crossing_at ["net", "ways", "place"] []
  g_put_together : mg "put_together" = some (.ref A.a_put_together)
  F_put_together : Fun K "put_together" "put_together" s_put_together A.a_put_together A.d_put_together
  b_put_together : Binds K A.d_put_together ["net", "ways", "lists"] []
  g_join_hues : mg "join_hues" = some (.ref A.a_join_hues)
  F_join_hues : Fun K "join_hues" "join_hues" s_join_hues A.a_join_hues A.d_join_hues
  b_join_hues : Binds K A.d_join_hues ["net", "ways", "lists"] []
  g_tree_hues : mg "tree_hues" = some (.ref A.a_tree_hues)
  F_tree_hues : Fun K "tree_hues" "tree_hues" s_tree_hues A.a_tree_hues A.d_tree_hues
  b_tree_hues : Binds K A.d_tree_hues ["net", "ways"] []
  g_law_purse : mg "_law_purse" = some (.ref A.a_law_purse)
  F_law_purse : Fun K "_law_purse" "_law_purse" s_law_purse A.a_law_purse A.d_law_purse
  b_law_purse : Binds K A.d_law_purse ["_law_script"] []
  g_law_draw : mg "_law_draw" = some (.ref A.a_law_draw)
  F_law_draw : Fun K "_law_draw" "_law_draw" s_law_draw A.a_law_draw A.d_law_draw
  b_law_draw : Binds K A.d_law_draw ["_law_purse_here", "_law_out_of"] []
  g_law_tree : mg "_law_tree" = some (.ref A.a_law_tree)
  F_law_tree : Fun K "_law_tree" "_law_tree" s_law_tree A.a_law_tree A.d_law_tree
  b_law_tree : Binds K A.d_law_tree ["_law_purse_here"] []
  g_law_ways : mg "_law_ways" = some (.ref A.a_law_ways)
  F_law_ways : Fun K "_law_ways" "_law_ways" s_law_ways A.a_law_ways A.d_law_ways
  b_law_ways : Binds K A.d_law_ways ["_law_purse_here", "_law_places", "_law_most"] []
  g_law_no_net : mg "_law_no_net" = some (.ref A.a_law_no_net)
  F_law_no_net : Fun K "_law_no_net" "_law_no_net" s_law_no_net A.a_law_no_net A.d_law_no_net
  b_law_no_net : Binds K A.d_law_no_net ["_law_purse_here", "_law_parents"] []
  g_law_no_ways : mg "_law_no_ways" = some (.ref A.a_law_no_ways)
  F_law_no_ways : Fun K "_law_no_ways" "_law_no_ways" s_law_no_ways A.a_law_no_ways A.d_law_no_ways
  b_law_no_ways : Binds K A.d_law_no_ways ["_law_purse_here", "_law_ways_here", "_law_places"] []
  g_law_first_none : mg "_law_first_none" = some (.ref A.a_law_first_none)
  F_law_first_none : Fun K "_law_first_none" "_law_first_none" s_law_first_none A.a_law_first_none A.d_law_first_none
  b_law_first_none : Binds K A.d_law_first_none ["_law_ways_here", "_law_places"] []
  g_law_marks : mg "_law_marks" = some (.ref A.a_law_marks)
  F_law_marks : Fun K "_law_marks" "_law_marks" s_law_marks A.a_law_marks A.d_law_marks
  b_law_marks : Binds K A.d_law_marks ["_law_caught"] []
  g_law_refused : mg "_law_refused" = some (.ref A.a_law_refused)
  F_law_refused : Fun K "_law_refused" "_law_refused" s_law_refused A.a_law_refused A.d_law_refused
  b_law_refused : Binds K A.d_law_refused ["_law_which", "_law_net", "_law_ways_here", "_law_place"] []
  g_law_all : mg "_law_all" = some (.ref A.a_law_all)
  F_law_all : Fun K "_law_all" "_law_all" s_law_all A.a_law_all A.d_law_all
  b_law_all : Binds K A.d_law_all ["_law_net", "_law_ways_here", "_law_place", "_law_due"] []
  g_law : mg "law" = some (.ref A.a_law)
  F_law : Fun K "law" "law" s_law A.a_law A.d_law
  b_law : Binds K A.d_law ["_law_script"] []
  k_Meeting : mg "Meeting" = some (.ref A.c_Meeting)
  M_Meeting : Mk K A.c_Meeting A.a_Meeting_init
  F_Meeting_init : Fun K "__init__" "Meeting.__init__" s_Meeting_init A.a_Meeting_init A.d_Meeting_init
  K_Meeting : Cls K A.c_Meeting
  N_Meeting_pairs : NoAttr K A.c_Meeting "pairs"
  N_Meeting_most : NoAttr K A.c_Meeting "most"
  N_Meeting_worn : NoAttr K A.c_Meeting "worn"
  b_Meeting_init : Binds K A.d_Meeting_init ["self", "pairs", "most"] []
  Me_Meeting_by : Meth K A.c_Meeting "by" A.a_Meeting_by
  F_Meeting_by : Fun K "by" "Meeting.by" s_Meeting_by A.a_Meeting_by A.d_Meeting_by
  b_Meeting_by : Binds K A.d_Meeting_by ["self", "tie", "hue"] []
  Me_Meeting_free : Meth K A.c_Meeting "free" A.a_Meeting_free
  F_Meeting_free : Fun K "free" "Meeting.free" s_Meeting_free A.a_Meeting_free A.d_Meeting_free
  b_Meeting_free : Binds K A.d_Meeting_free ["self", "tie"] []
  Me_Meeting_chain : Meth K A.c_Meeting "chain" A.a_Meeting_chain
  F_Meeting_chain : Fun K "chain" "Meeting.chain" s_Meeting_chain A.a_Meeting_chain A.d_Meeting_chain
  b_Meeting_chain : Binds K A.d_Meeting_chain ["self", "tie", "hue", "other"] []
  Me_Meeting_exchange : Meth K A.c_Meeting "exchange" A.a_Meeting_exchange
  F_Meeting_exchange : Fun K "exchange" "Meeting.exchange" s_Meeting_exchange A.a_Meeting_exchange A.d_Meeting_exchange
  b_Meeting_exchange : Binds K A.d_Meeting_exchange ["self", "some", "hue", "other"] []
  Me_Meeting_direct : Meth K A.c_Meeting "direct" A.a_Meeting_direct
  F_Meeting_direct : Fun K "direct" "Meeting.direct" s_Meeting_direct A.a_Meeting_direct A.d_Meeting_direct
  b_Meeting_direct : Binds K A.d_Meeting_direct ["self", "k"] []
  Me_Meeting_round_about : Meth K A.c_Meeting "round_about" A.a_Meeting_round_about
  F_Meeting_round_about : Fun K "round_about" "Meeting.round_about" s_Meeting_round_about A.a_Meeting_round_about A.d_Meeting_round_about
  b_Meeting_round_about : Binds K A.d_Meeting_round_about ["self", "k"] []
  Me_Meeting_freed : Meth K A.c_Meeting "freed" A.a_Meeting_freed
  F_Meeting_freed : Fun K "freed" "Meeting.freed" s_Meeting_freed A.a_Meeting_freed A.d_Meeting_freed
  b_Meeting_freed : Binds K A.d_Meeting_freed ["self", "s", "t", "z"] []
  Me_Meeting_put : Meth K A.c_Meeting "put" A.a_Meeting_put
  F_Meeting_put : Fun K "put" "Meeting.put" s_Meeting_put A.a_Meeting_put A.d_Meeting_put
  b_Meeting_put : Binds K A.d_Meeting_put ["self", "k"] []
  c_MOST_TIES : mg "MOST_TIES" = some (.int 60 (g_tok mg "MOST_TIES"))
  c_MOST_PAIRS : mg "MOST_PAIRS" = some (.int 60 (g_tok mg "MOST_PAIRS"))
  c_MOST_PLACES : mg "MOST_PLACES" = some (.int 60 (g_tok mg "MOST_PLACES"))
  z_ValueError : mg "ValueError" = none
  z_int : mg "int" = none
  z_isinstance : mg "isinstance" = none
  z_len : mg "len" = none
  z_list : mg "list" = none
  z_max : mg "max" = none
  z_min : mg "min" = none
  z_range : mg "range" = none
  z_sorted : mg "sorted" = none
  z_sum : mg "sum" = none
  z_zip : mg "zip" = none
  k_TieError : mg "TieError" = some (.ref A.c_TieError)
  x_TieError : ExK K A.c_TieError
  t_TieError : PySem.W.typeIn K (.ref A.c_TieError) = some (.type "type")
  k_NoNet : mg "NoNet" = some (.ref A.c_NoNet)
  x_NoNet : ExK K A.c_NoNet
  t_NoNet : PySem.W.typeIn K (.ref A.c_NoNet) = some (.type "type")
  k_OtherNet : mg "OtherNet" = some (.ref A.c_OtherNet)
  x_OtherNet : ExK K A.c_OtherNet
  t_OtherNet : PySem.W.typeIn K (.ref A.c_OtherNet) = some (.type "type")
  k_NoWay : mg "NoWay" = some (.ref A.c_NoWay)
  x_NoWay : ExK K A.c_NoWay
  t_NoWay : PySem.W.typeIn K (.ref A.c_NoWay) = some (.type "type")
  k_TooMany : mg "TooMany" = some (.ref A.c_TooMany)
  x_TooMany : ExK K A.c_TooMany
  t_TooMany : PySem.W.typeIn K (.ref A.c_TooMany) = some (.type "type")
  k_NoHues : mg "NoHues" = some (.ref A.c_NoHues)
  x_NoHues : ExK K A.c_NoHues
  t_NoHues : PySem.W.typeIn K (.ref A.c_NoHues) = some (.type "type")
  k_NoCrossing : mg "NoCrossing" = some (.ref A.c_NoCrossing)
  x_NoCrossing : ExK K A.c_NoCrossing
  t_NoCrossing : PySem.W.typeIn K (.ref A.c_NoCrossing) = some (.type "type")
  k_NoLot : mg "NoLot" = some (.ref A.c_NoLot)
  x_NoLot : ExK K A.c_NoLot
  t_NoLot : PySem.W.typeIn K (.ref A.c_NoLot) = some (.type "type")
  k_NoPlace : mg "NoPlace" = some (.ref A.c_NoPlace)
  x_NoPlace : ExK K A.c_NoPlace
  t_NoPlace : PySem.W.typeIn K (.ref A.c_NoPlace) = some (.type "type")
  k_NoNumber : mg "NoNumber" = some (.ref A.c_NoNumber)
  x_NoNumber : ExK K A.c_NoNumber
  t_NoNumber : PySem.W.typeIn K (.ref A.c_NoNumber) = some (.type "type")
  k_NoTurning : mg "NoTurning" = some (.ref A.c_NoTurning)
  x_NoTurning : ExK K A.c_NoTurning
  t_NoTurning : PySem.W.typeIn K (.ref A.c_NoTurning) = some (.type "type")
  k_NoTie : mg "NoTie" = some (.ref A.c_NoTie)
  x_NoTie : ExK K A.c_NoTie
  t_NoTie : PySem.W.typeIn K (.ref A.c_NoTie) = some (.type "type")
  k_NoText : mg "NoText" = some (.ref A.c_NoText)
  x_NoText : ExK K A.c_NoText
  t_NoText : PySem.W.typeIn K (.ref A.c_NoText) = some (.type "type")
  k_NoRow : mg "NoRow" = some (.ref A.c_NoRow)
  x_NoRow : ExK K A.c_NoRow
  t_NoRow : PySem.W.typeIn K (.ref A.c_NoRow) = some (.type "type")
  k_NoName : mg "NoName" = some (.ref A.c_NoName)
  x_NoName : ExK K A.c_NoName
  t_NoName : PySem.W.typeIn K (.ref A.c_NoName) = some (.type "type")
  o_NoWay : OexC K A.c_NoWay
  in_NoWay : PySem.W.findIn K (.ref A.c_NoWay) "__init__" = some (some (.ref A.i_NoWay))
  ti_NoWay : PySem.W.typeIn K (.ref A.i_NoWay) = some (.type "function")
  Fi_NoWay : Fun K "__init__" "NoWay.__init__" s_init_NoWay A.i_NoWay A.di_NoWay
  bi_NoWay : Binds K A.di_NoWay ["self", "at"] []
  nf_NoWay : PySem.W.findIn K (.ref A.c_NoWay) "at" = some none
  o_NoHues : OexC K A.c_NoHues
  in_NoHues : PySem.W.findIn K (.ref A.c_NoHues) "__init__" = some (some (.ref A.i_NoHues))
  ti_NoHues : PySem.W.typeIn K (.ref A.i_NoHues) = some (.type "function")
  Fi_NoHues : Fun K "__init__" "NoHues.__init__" s_init_NoHues A.i_NoHues A.di_NoHues
  bi_NoHues : Binds K A.di_NoHues ["self", "place"] []
  nf_NoHues : PySem.W.findIn K (.ref A.c_NoHues) "place" = some none
  o_NoText : OexC K A.c_NoText
  in_NoText : PySem.W.findIn K (.ref A.c_NoText) "__init__" = some (some (.ref A.i_NoText))
  ti_NoText : PySem.W.typeIn K (.ref A.i_NoText) = some (.type "function")
  Fi_NoText : Fun K "__init__" "NoText.__init__" s_init_NoText A.i_NoText A.di_NoText
  bi_NoText : Binds K A.di_NoText ["self", "row"] []
  nf_NoText : PySem.W.findIn K (.ref A.c_NoText) "row" = some none
  base_ : BaseI K mg A.c_TieError "TieError"
  e_NoNet : PySem.W.excIn K A.c_NoNet [.type "ValueError", .type "Exception", .type "BaseException", .type "object"] "ValueError.__new__" = true
  p_NoNet : PySem.W.keepIn K (.ref A.c_NoNet) = true
  u_NoNet : PySem.W.subIn K (.ref A.c_NoNet) (.ref A.c_TieError) = some true
  q_NoNet_NoCrossing : PySem.W.kitOne K (.ref A.c_NoNet) (.ref A.c_NoCrossing) = some false
  q_NoNet_NoHues : PySem.W.kitOne K (.ref A.c_NoNet) (.ref A.c_NoHues) = some false
  q_NoNet_NoLot : PySem.W.kitOne K (.ref A.c_NoNet) (.ref A.c_NoLot) = some false
  q_NoNet_NoName : PySem.W.kitOne K (.ref A.c_NoNet) (.ref A.c_NoName) = some false
  q_NoNet_NoNet : PySem.W.kitOne K (.ref A.c_NoNet) (.ref A.c_NoNet) = some true
  q_NoNet_NoNumber : PySem.W.kitOne K (.ref A.c_NoNet) (.ref A.c_NoNumber) = some false
  q_NoNet_NoPlace : PySem.W.kitOne K (.ref A.c_NoNet) (.ref A.c_NoPlace) = some false
  q_NoNet_NoRow : PySem.W.kitOne K (.ref A.c_NoNet) (.ref A.c_NoRow) = some false
  q_NoNet_NoText : PySem.W.kitOne K (.ref A.c_NoNet) (.ref A.c_NoText) = some false
  q_NoNet_NoTie : PySem.W.kitOne K (.ref A.c_NoNet) (.ref A.c_NoTie) = some false
  q_NoNet_NoTurning : PySem.W.kitOne K (.ref A.c_NoNet) (.ref A.c_NoTurning) = some false
  q_NoNet_NoWay : PySem.W.kitOne K (.ref A.c_NoNet) (.ref A.c_NoWay) = some false
  q_NoNet_OtherNet : PySem.W.kitOne K (.ref A.c_NoNet) (.ref A.c_OtherNet) = some false
  q_NoNet_TooMany : PySem.W.kitOne K (.ref A.c_NoNet) (.ref A.c_TooMany) = some false
  q_NoNet_ValueError : PySem.W.kitOne K (.ref A.c_NoNet) (.type "ValueError") = some true
  e_NoPlace : PySem.W.excIn K A.c_NoPlace [.type "ValueError", .type "Exception", .type "BaseException", .type "object"] "ValueError.__new__" = true
  p_NoPlace : PySem.W.keepIn K (.ref A.c_NoPlace) = true
  u_NoPlace : PySem.W.subIn K (.ref A.c_NoPlace) (.ref A.c_TieError) = some true
  q_NoPlace_NoCrossing : PySem.W.kitOne K (.ref A.c_NoPlace) (.ref A.c_NoCrossing) = some false
  q_NoPlace_NoHues : PySem.W.kitOne K (.ref A.c_NoPlace) (.ref A.c_NoHues) = some false
  q_NoPlace_NoLot : PySem.W.kitOne K (.ref A.c_NoPlace) (.ref A.c_NoLot) = some false
  q_NoPlace_NoName : PySem.W.kitOne K (.ref A.c_NoPlace) (.ref A.c_NoName) = some false
  q_NoPlace_NoNet : PySem.W.kitOne K (.ref A.c_NoPlace) (.ref A.c_NoNet) = some false
  q_NoPlace_NoNumber : PySem.W.kitOne K (.ref A.c_NoPlace) (.ref A.c_NoNumber) = some false
  q_NoPlace_NoPlace : PySem.W.kitOne K (.ref A.c_NoPlace) (.ref A.c_NoPlace) = some true
  q_NoPlace_NoRow : PySem.W.kitOne K (.ref A.c_NoPlace) (.ref A.c_NoRow) = some false
  q_NoPlace_NoText : PySem.W.kitOne K (.ref A.c_NoPlace) (.ref A.c_NoText) = some false
  q_NoPlace_NoTie : PySem.W.kitOne K (.ref A.c_NoPlace) (.ref A.c_NoTie) = some false
  q_NoPlace_NoTurning : PySem.W.kitOne K (.ref A.c_NoPlace) (.ref A.c_NoTurning) = some false
  q_NoPlace_NoWay : PySem.W.kitOne K (.ref A.c_NoPlace) (.ref A.c_NoWay) = some false
  q_NoPlace_OtherNet : PySem.W.kitOne K (.ref A.c_NoPlace) (.ref A.c_OtherNet) = some false
  q_NoPlace_TooMany : PySem.W.kitOne K (.ref A.c_NoPlace) (.ref A.c_TooMany) = some false
  q_NoPlace_ValueError : PySem.W.kitOne K (.ref A.c_NoPlace) (.type "ValueError") = some true
  u_NoWay : PySem.W.subIn K (.ref A.c_NoWay) (.ref A.c_TieError) = some true
  q_NoWay_NoCrossing : PySem.W.kitOne K (.ref A.c_NoWay) (.ref A.c_NoCrossing) = some false
  q_NoWay_NoHues : PySem.W.kitOne K (.ref A.c_NoWay) (.ref A.c_NoHues) = some false
  q_NoWay_NoLot : PySem.W.kitOne K (.ref A.c_NoWay) (.ref A.c_NoLot) = some false
  q_NoWay_NoName : PySem.W.kitOne K (.ref A.c_NoWay) (.ref A.c_NoName) = some false
  q_NoWay_NoNet : PySem.W.kitOne K (.ref A.c_NoWay) (.ref A.c_NoNet) = some false
  q_NoWay_NoNumber : PySem.W.kitOne K (.ref A.c_NoWay) (.ref A.c_NoNumber) = some false
  q_NoWay_NoPlace : PySem.W.kitOne K (.ref A.c_NoWay) (.ref A.c_NoPlace) = some false
  q_NoWay_NoRow : PySem.W.kitOne K (.ref A.c_NoWay) (.ref A.c_NoRow) = some false
  q_NoWay_NoText : PySem.W.kitOne K (.ref A.c_NoWay) (.ref A.c_NoText) = some false
  q_NoWay_NoTie : PySem.W.kitOne K (.ref A.c_NoWay) (.ref A.c_NoTie) = some false
  q_NoWay_NoTurning : PySem.W.kitOne K (.ref A.c_NoWay) (.ref A.c_NoTurning) = some false
  q_NoWay_NoWay : PySem.W.kitOne K (.ref A.c_NoWay) (.ref A.c_NoWay) = some true
  q_NoWay_OtherNet : PySem.W.kitOne K (.ref A.c_NoWay) (.ref A.c_OtherNet) = some false
  q_NoWay_TooMany : PySem.W.kitOne K (.ref A.c_NoWay) (.ref A.c_TooMany) = some false
  q_NoWay_ValueError : PySem.W.kitOne K (.ref A.c_NoWay) (.type "ValueError") = some true
  e_OtherNet : PySem.W.excIn K A.c_OtherNet [.type "ValueError", .type "Exception", .type "BaseException", .type "object"] "ValueError.__new__" = true
  p_OtherNet : PySem.W.keepIn K (.ref A.c_OtherNet) = true
  u_OtherNet : PySem.W.subIn K (.ref A.c_OtherNet) (.ref A.c_TieError) = some true
  q_OtherNet_NoCrossing : PySem.W.kitOne K (.ref A.c_OtherNet) (.ref A.c_NoCrossing) = some false
  q_OtherNet_NoHues : PySem.W.kitOne K (.ref A.c_OtherNet) (.ref A.c_NoHues) = some false
  q_OtherNet_NoLot : PySem.W.kitOne K (.ref A.c_OtherNet) (.ref A.c_NoLot) = some false
  q_OtherNet_NoName : PySem.W.kitOne K (.ref A.c_OtherNet) (.ref A.c_NoName) = some false
  q_OtherNet_NoNet : PySem.W.kitOne K (.ref A.c_OtherNet) (.ref A.c_NoNet) = some false
  q_OtherNet_NoNumber : PySem.W.kitOne K (.ref A.c_OtherNet) (.ref A.c_NoNumber) = some false
  q_OtherNet_NoPlace : PySem.W.kitOne K (.ref A.c_OtherNet) (.ref A.c_NoPlace) = some false
  q_OtherNet_NoRow : PySem.W.kitOne K (.ref A.c_OtherNet) (.ref A.c_NoRow) = some false
  q_OtherNet_NoText : PySem.W.kitOne K (.ref A.c_OtherNet) (.ref A.c_NoText) = some false
  q_OtherNet_NoTie : PySem.W.kitOne K (.ref A.c_OtherNet) (.ref A.c_NoTie) = some false
  q_OtherNet_NoTurning : PySem.W.kitOne K (.ref A.c_OtherNet) (.ref A.c_NoTurning) = some false
  q_OtherNet_NoWay : PySem.W.kitOne K (.ref A.c_OtherNet) (.ref A.c_NoWay) = some false
  q_OtherNet_OtherNet : PySem.W.kitOne K (.ref A.c_OtherNet) (.ref A.c_OtherNet) = some true
  q_OtherNet_TooMany : PySem.W.kitOne K (.ref A.c_OtherNet) (.ref A.c_TooMany) = some false
  q_OtherNet_ValueError : PySem.W.kitOne K (.ref A.c_OtherNet) (.type "ValueError") = some true
/-! ### nets -/
inductive Net where
  | line (n : Int)
  | ring (n : Int)
  | tree (ps : List Int)
def Net.kind : Net → Str
  | .line _ => Str.ofString "line"
  | .ring _ => Str.ofString "ring"
  | .tree _ => Str.ofString "tree"
def Net.size : Net → PyData
  | .line n => .int n
  | .ring n => .int n
  | .tree ps => dInts ps
abbrev Net.d (N : Net) : PyData := .tuple [.str N.kind, N.size]
def TreeOk (ps : List Int) : Prop := 1 ≤ ps.length ∧ ps.length < 60 ∧ ∀ k : Nat, k < ps.length → 0 ≤ ps.getD k 0 ∧ ps.getD k 0 ≤ k
def Net.ok : Net → Prop
  | .line n => 2 ≤ n ∧ n ≤ 60
  | .ring n => 3 ≤ n ∧ n ≤ 60
  | .tree ps => TreeOk ps
def Net.places : Net → Int
  | .line n => n
  | .ring n => n
  | .tree ps => ps.length + 1
theorem net_str {s t : Str} (h : decide (V.str s = V.str t) = true) : s = t := V.str.inj (of_decide_eq_true h)
/-- a net's tuple -/
theorem dp_net {K : PySem.W.Frag} {H : Hp} {v : V} {N : Net} (h : Dp K H v N.d) : ∃ a y, v = .ref a ∧ SqT K H a [.str N.kind, y] ∧ Dp K H y N.size := by
  obtain ⟨a, x, y, rfl, hs, hx, hy⟩ := dp_tup2 h
  obtain rfl := dp_str hx
  exact ⟨a, y, rfl, hs, hy⟩
theorem k_eqS {s t : Str} {H : Hp} {Q : VK} (h : Q (.bl (decide (s = t))) H) : rEq (.str s) (.str t) H Q := ⟨rfl, by
  have e : decide (V.str s = V.str t) = decide (s = t) := by
    by_cases c : s = t
    · rw [decide_eq_true c, decide_eq_true (by rw [c])]
    · rw [decide_eq_false c, decide_eq_false (fun z => c (V.str.inj z))]
  rw [e]; exact h⟩
theorem k_neS {s t : Str} {H : Hp} {Q : VK} (h : Q (.bl (!decide (s = t))) H) : rNe (.str s) (.str t) H Q := ⟨rfl, by
  have e : decide (V.str s = V.str t) = decide (s = t) := by
    by_cases c : s = t
    · rw [decide_eq_true c, decide_eq_true (by rw [c])]
    · rw [decide_eq_false c, decide_eq_false (fun z => c (V.str.inj z))]
  rw [e]; exact h⟩
theorem s_lt : decide (Str.ofString "line" = Str.ofString "tree") = false := by decide +kernel
theorem s_rt : decide (Str.ofString "ring" = Str.ofString "tree") = false := by decide +kernel
theorem s_lr : decide (Str.ofString "line" = Str.ofString "ring") = false := by decide +kernel
theorem s_rl : decide (Str.ofString "ring" = Str.ofString "line") = false := by decide +kernel
theorem s_tl : decide (Str.ofString "tree" = Str.ofString "line") = false := by decide +kernel
theorem s_tr : decide (Str.ofString "tree" = Str.ofString "ring") = false := by decide +kernel
theorem s_same (s : Str) : decide (s = s) = true := decide_eq_true rfl
/-- how far t lies up from a on a ring of n -/
def up (n a t : Int) : Int := if a ≤ t then t - a else t - a + n
/-- x lies in the part of the tree that hangs by k -/
def below (ps : List Int) (k : Nat) : Nat → Bool
  | 0 => decide (k = 0)
  | x + 1 => decide (k = x + 1) || (decide (k < x + 1) && if h : (ps.getD x 0).toNat < x + 1 then below ps k (ps.getD x 0).toNat else false)
termination_by x => x
decreasing_by exact h
def OnTie : Net → Int → Int → Int → Prop
  | .line _, a, b, t => min a b ≤ t ∧ t < max a b
  | .ring n, a, b, t => 0 ≤ t ∧ t < n ∧ up n a t < up n a b
  | .tree ps, a, b, t => 0 ≤ t ∧ t < ps.length ∧ below ps (t.toNat + 1) a.toNat ≠ below ps (t.toNat + 1) b.toNat
def Net.far : Net → Int → Int → List Int → Prop
  | .line _, a, b, ns => (ns.length : Int) = max a b - min a b
  | .ring n, a, b, ns => (ns.length : Int) = up n a b
  | .tree _, _, _, ns => ns.length < 120
def isWay (N : Net) (a b : Int) : Prop := a ≠ b ∧ 0 ≤ a ∧ 0 ≤ b ∧ a < N.places ∧ b < N.places
instance (N : Net) (a b : Int) : Decidable (isWay N a b) := by unfold isWay; infer_instance
structure TiesOf (N : Net) (a b : Int) (ns : List Int) : Prop where
  srt : ns.Pairwise (· < ·)
  mem : ∀ t, t ∈ ns ↔ OnTie N a b t
  far : N.far a b ns
/-! ### things that may be nets -/
structure ANet where
  kd : Str
  sz : Int ⊕ List Int
def szd : Int ⊕ List Int → PyData
  | .inl n => .int n
  | .inr ps => dInts ps
abbrev ANet.d (M : ANet) : PyData := .tuple [.str M.kd, szd M.sz]
def Net.a : Net → ANet
  | .line n => ⟨Str.ofString "line", .inl n⟩
  | .ring n => ⟨Str.ofString "ring", .inl n⟩
  | .tree ps => ⟨Str.ofString "tree", .inr ps⟩
theorem a_d (N : Net) : N.a.d = N.d := by cases N <;> rfl
theorem a_kd (N : Net) : N.a.kd = N.kind := by cases N <;> rfl
def ANet.ok (M : ANet) : Prop := ∃ N : Net, M = N.a ∧ N.ok
def ANet.lens (M : ANet) : Prop := ∀ ps, M.sz = .inr ps → ps.length ≤ 10000
theorem lens_l {k : Str} {n : Int} : ANet.lens ⟨k, .inl n⟩ := fun ps h => by cases h
theorem lens_r {k : Str} {ps : List Int} (h : ps.length ≤ 10000) : ANet.lens ⟨k, .inr ps⟩ := fun qs e => by cases e; exact h
theorem a_lens {N : Net} (ok : N.ok) : N.a.lens := by
  cases N with
  | line n => exact lens_l
  | ring n => exact lens_l
  | tree ps => exact lens_r (by have := ok.2.1; omega)
theorem sne {s t : Str} (h : decide (s = t) = false) : s ≠ t := of_decide_eq_false h
theorem aok_tl {n : Int} : ¬ ANet.ok ⟨Str.ofString "tree", .inl n⟩ := fun ⟨N, e, _⟩ => by
  cases N with
  | line m => exact sne s_tl (congrArg ANet.kd e)
  | ring m => exact sne s_tr (congrArg ANet.kd e)
  | tree ps => cases congrArg ANet.sz e
theorem aok_t {ps : List Int} : ANet.ok ⟨Str.ofString "tree", .inr ps⟩ ↔ TreeOk ps := ⟨fun ⟨N, e, h⟩ => by
  cases N with
  | line m => exact absurd (congrArg ANet.kd e) (sne s_tl)
  | ring m => exact absurd (congrArg ANet.kd e) (sne s_tr)
  | tree qs => cases congrArg ANet.sz e; exact h, fun h => ⟨.tree ps, rfl, h⟩⟩
theorem aok_l {n : Int} : ANet.ok ⟨Str.ofString "line", .inl n⟩ ↔ 2 ≤ n ∧ n ≤ 60 := ⟨fun ⟨N, e, h⟩ => by
  cases N with
  | line m => cases congrArg ANet.sz e; exact h
  | ring m => exact absurd (congrArg ANet.kd e) (sne s_lr)
  | tree qs => exact absurd (congrArg ANet.kd e) (sne s_lt), fun h => ⟨.line n, rfl, h⟩⟩
theorem aok_lr {ps : List Int} : ¬ ANet.ok ⟨Str.ofString "line", .inr ps⟩ := fun ⟨N, e, _⟩ => by
  cases N with
  | line m => cases congrArg ANet.sz e
  | ring m => cases congrArg ANet.sz e
  | tree qs => exact sne s_lt (congrArg ANet.kd e)
theorem aok_r {n : Int} : ANet.ok ⟨Str.ofString "ring", .inl n⟩ ↔ 3 ≤ n ∧ n ≤ 60 := ⟨fun ⟨N, e, h⟩ => by
  cases N with
  | line m => exact absurd (congrArg ANet.kd e) (sne s_rl)
  | ring m => cases congrArg ANet.sz e; exact h
  | tree qs => exact absurd (congrArg ANet.kd e) (sne s_rt), fun h => ⟨.ring n, rfl, h⟩⟩
theorem aok_rr {ps : List Int} : ¬ ANet.ok ⟨Str.ofString "ring", .inr ps⟩ := fun ⟨N, e, _⟩ => by
  cases N with
  | line m => cases congrArg ANet.sz e
  | ring m => cases congrArg ANet.sz e
  | tree qs => exact sne s_rt (congrArg ANet.kd e)
theorem aok_o {k : Str} {z : Int ⊕ List Int} (h1 : k ≠ Str.ofString "line") (h2 : k ≠ Str.ofString "ring") (h3 : k ≠ Str.ofString "tree") : ¬ ANet.ok ⟨k, z⟩ := fun ⟨N, e, _⟩ => by
  have e := congrArg ANet.kd e
  cases N with
  | line m => exact h1 e
  | ring m => exact h2 e
  | tree qs => exact h3 e
theorem dp_anet {K : PySem.W.Frag} {H : Hp} {v : V} {M : ANet} (h : Dp K H v M.d) : ∃ a y, v = .ref a ∧ SqT K H a [.str M.kd, y] ∧ Dp K H y (szd M.sz) := by
  obtain ⟨a, x, y, rfl, hs, hx, hy⟩ := dp_tup2 h
  obtain rfl := dp_str hx
  exact ⟨a, y, rfl, hs, hy⟩

variable {P : Program} {w : World} {K : PySem.W.Frag} {mg : Str → Option Value} {base : Heap} {A : Ad}
def pr_is_tree (K : PySem.W.Frag) (v0 : V) (H : Hp) (Q : VK) (_ : XK) : Prop := ∃ ps, Dp K H v0 (dInts ps) ∧ ps.length ≤ 10000 ∧ ∀ b, (b = true ↔ TreeOk ps) → Q (.bl b) H
def t_is_tree (K : PySem.W.Frag) : TS :=
  (tSeq (tIfS (tOr (tTest (tOp xLt (tCB (rLenX K) (tCons (tVar 0) tNil)) (tC (.int 1)))) (tTest (tOp xGe (tCB (rLenX K) (tCons (tVar 0) tNil)) (tC (.int 60))))) (tRet (tC (.bl false))) tNext)
    (tSeq (tFor (iRng1 (tCons (tCB (rLenX K) (tCons (tVar 0) tNil)) tNil)) (gName 1)
      (tIfS (tOr (tTest (tOp xLt (tOp (rIxL K) (tVar 0) (tVar 1)) (tC (.int 0)))) (tTest (tOp xGt (tOp (rIxL K) (tVar 0) (tVar 1)) (tVar 1)))) (tRet (tC (.bl false))) tNext))
    (tRet (tC (.bl true)))))
theorem pure_is_tree {v0 : V} {H : Hp} {Q : VK} {E : XK} (h : pr_is_tree K v0 H Q E) : t_is_tree K ⟨fun _ H' => Q .non H', Q, fun _ _ => False, fun _ _ => False⟩ [some v0, none] H := by
  obtain ⟨ps, hp, hz, q⟩ := h
  obtain ⟨a, rfl, ha⟩ := dp_ints hp
  unfold t_is_tree
  wtm_at "s"
  refine k_it (fun c1 => ?_) (fun c1 => ?_)
  · wtm_at "s"
    exact q _ (ff_iff fun z => absurd z.1 (by omega))
  wtm_at "s"
  refine k_it (fun c2 => ?_) (fun c2 => ?_)
  · wtm_at "s"
    exact q _ (ff_iff fun z => absurd z.2.1 (by omega))
  wtm_at "s"
  refine forR (fun i σ' H' => H' = H ∧ (∃ k, σ' = [some (.ref a), k]) ∧ ∀ k : Nat, k < i → 0 ≤ ps.getD k 0 ∧ ps.getD k 0 ≤ k) ⟨rfl, ⟨none, rfl⟩, fun k hk => absurd hk (by omega)⟩ ?_ ?_
  · rintro i σ' H' hi ⟨rfl, ⟨k, rfl⟩, hk⟩
    wtm_at "s"
    refine k_ixI ha (by omega) (by omega) ?_
    wtm_at "s"
    rw [show (0 + (i : Int)).toNat = i by omega]
    refine k_it (fun c3 => ?_) (fun c3 => ?_)
    · wtm_at "s"
      exact q _ (ff_iff fun z => absurd (z.2.2 i (by omega)).1 (by omega))
    wtm_at "s"
    refine k_ixI ha (by omega) (by omega) ?_
    wtm_at "s"
    rw [show (0 + (i : Int)).toNat = i by omega]
    refine k_it (fun c4 => ?_) (fun c4 => ?_)
    · wtm_at "s"
      exact q _ (ff_iff fun z => absurd (z.2.2 i (by omega)).2 (by omega))
    wtm_at "s"
    refine ⟨rfl, ⟨_, rfl⟩, fun k hk' => ?_⟩
    by_cases e : k = i
    · subst e; omega
    · exact hk k (by omega)
  · rintro σ' H' ⟨rfl, ⟨k, rfl⟩, hk⟩
    wtm_at "s"
    exact q _ (tt_iff ⟨by omega, by omega, fun k h => hk k (by omega)⟩)
abbrev sp_is_tree (K : PySem.W.Frag) : Sp := fun vs H Q E => ∃ v0, vs = [v0] ∧ pr_is_tree K v0 H Q E
theorem ok_is_tree (T : Txt K mg A) : FnOk P w K mg base CX0 1 A.a_is_tree A.d_is_tree ["parents"] (sp_is_tree K) := by
  refine T.F_is_tree.ok sc_is_tree (fun vs H Q E h => by obtain ⟨v0, rfl, _⟩ := h; rfl) (fun cdv A0 outer s H vs Q E hr h => ?_)
  obtain ⟨v0, rfl, h⟩ := h
  exact ⟨t_is_tree K, (pss_cons (ps_if (PW.pt (pw_or (pt_cmpR op_lt (pe_callB q_len (by rfl) T.z_len (by decide +kernel) (pa_cons (pv 0) pa_nil)) pe_int (nomark _)) (pw_or1 (pt_cmpR op_ge (pe_callB q_len (by rfl) T.z_len (by decide +kernel) (pa_cons (pv 0) pa_nil)) (pe_glob (v := .int 60) (by rfl) T.c_MOST_PLACES ⟨_, rfl⟩) (nomark _))))) (pss_one (ps_ret pe_bl)) pss_nil)
      (pss_cons (ps_for PassesOwn.never rfl (pi_range1 (by rfl) T.z_range (pa_cons (pe_callB q_len (by rfl) T.z_len (by decide +kernel) (pa_cons (pv 0) pa_nil)) pa_nil)) (pg_name (i := 1) sc_is_tree.nd rfl (Or.inl rfl))
      (pss_one (ps_if (PW.pt (pw_or (pt_cmpR op_lt (pe_ix ix_list (pv 0) (pv 1) (fun _ _ => rfl)) pe_int (nomark _)) (pw_or1 (pt_cmpR op_gt (pe_ix ix_list (pv 0) (pv 1) (fun _ _ => rfl)) (pv 1) (nomark _))))) (pss_one (ps_ret pe_bl)) pss_nil)))
      (pss_one (ps_ret pe_bl)))), pure_is_tree h⟩
def pr_look_net (K : PySem.W.Frag) (A : Ad) (v0 : V) (H : Hp) (Q : VK) (E : XK) : Prop := ∃ M : ANet, Dp K H v0 M.d ∧ M.lens ∧ ((¬ M.ok ∧ E (.ref A.c_NoNet) none H) ∨ (M.ok ∧ Q .non H))
def t_look_net (K : PySem.W.Frag) (A : Ad) (E : XK) : TS :=
  (tSeq (tAsg (tVar 0) (gTup K 2 (gCons (gName 1) (gCons (gName 2) gNil))))
    (tSeq (tIfS (tTest (tOp rEq (tVar 1) (tC (.str (Str.ofString "tree"))))) (tAsg (tAndV (tCB (rIsi K) (tCons (tVar 2) (tCons (tC (.ty "list")) tNil))) (tCall (sp_is_tree K) [] E0 (tCons (tVar 2) tNil))) (gName 3)) (tIfS (tOr (tTest (tOp rEq (tVar 1) (tC (.str (Str.ofString "line"))))) (tTest (tOp rEq (tVar 1) (tC (.str (Str.ofString "ring")))))) (tAsg (tAndV (tNotV (tCB (rIsi K) (tCons (tVar 2) (tCons (tC (.ty "list")) tNil)))) (tAndV (tOp xGe (tVar 2) (tOp xAdd (tC (.int 2)) (tCB rIntOf (tCons (tOp rEq (tVar 1) (tC (.str (Str.ofString "ring")))) tNil)))) (tOp xLe (tVar 2) (tC (.int 60))))) (gName 3)) (tAsg (tC (.bl false)) (gName 3))))
    (tIfS (tNot (tB (tVar 3))) (tRaiseP A.c_NoNet E) tNext)))
theorem pure_look_net {v0 : V} {H : Hp} {Q : VK} {E : XK} (h : pr_look_net K A v0 H Q E) : t_look_net K A E ⟨fun _ H' => Q .non H', Q, fun _ _ => False, fun _ _ => False⟩ [some v0, none, none, none] H := by
  obtain ⟨⟨kd, z⟩, hd, hlen, h⟩ := h
  have qq : ANet.ok ⟨kd, z⟩ → Q .non H := fun o => by
    rcases h with ⟨h1, _⟩ | ⟨_, h2⟩
    · exact absurd o h1
    · exact h2
  have qe : ¬ ANet.ok ⟨kd, z⟩ → E (.ref A.c_NoNet) none H := fun o => by
    rcases h with ⟨_, h1⟩ | ⟨h2, _⟩
    · exact h1
    · exact absurd h2 o
  clear h
  obtain ⟨a, y, rfl, hs, hy⟩ := dp_anet hd
  unfold t_look_net
  wtm_at "s"
  refine k_eqS ?_
  by_cases c1 : kd = Str.ofString "tree"
  · subst c1
    rw [s_same]
    cases z with
    | inl n =>
      obtain rfl := dp_int hy
      wtm_at "s"
      exact qe aok_tl
    | inr ps =>
      obtain ⟨b, rfl, hb⟩ := dp_ints hy
      wtm_at "s"
      refine ⟨_, rfl, ps, hy, hlen ps rfl, fun r hr => ?_⟩
      cases r with
      | true =>
        wtm_at "s"
        exact qq (aok_t.mpr (hr.mp rfl))
      | false =>
        wtm_at "s"
        exact qe fun o => by have := hr.mpr (aok_t.mp o); cases this
  · rw [decide_eq_false c1]
    wtm_at "s"
    refine k_eqS ?_
    by_cases c2 : kd = Str.ofString "line"
    · subst c2
      rw [s_same]
      cases z with
      | inl n =>
        obtain rfl := dp_int hy
        wtm_at "s"
        refine k_eqS ?_
        rw [s_lr]
        wtm_at "s"
        by_cases c : 2 ≤ n
        · have e1 : decide (2 + (if false = true then 1 else 0) ≤ n) = true := by simp; omega
          rw [e1]
          wtm_at "s"
          by_cases c' : n ≤ 60
          · wtm_at "s"
            exact qq (aok_l.mpr ⟨c, c'⟩)
          · wtm_at "s"
            exact qe fun o => c' (aok_l.mp o).2
        · have e1 : decide (2 + (if false = true then 1 else 0) ≤ n) = false := by simp; omega
          rw [e1]
          wtm_at "s"
          exact qe fun o => c (aok_l.mp o).1
      | inr ps =>
        obtain ⟨b, rfl, hb⟩ := dp_ints hy
        wtm_at "s"
        exact qe aok_lr
    · rw [decide_eq_false c2]
      wtm_at "s"
      refine k_eqS ?_
      by_cases c3 : kd = Str.ofString "ring"
      · subst c3
        rw [s_same]
        cases z with
        | inl n =>
          obtain rfl := dp_int hy
          wtm_at "s"
          refine k_eqS ?_
          rw [s_same]
          wtm_at "s"
          by_cases c : 3 ≤ n
          · have e1 : decide (2 + (if true = true then 1 else 0) ≤ n) = true := by simp; omega
            rw [e1]
            wtm_at "s"
            by_cases c' : n ≤ 60
            · wtm_at "s"
              exact qq (aok_r.mpr ⟨c, c'⟩)
            · wtm_at "s"
              exact qe fun o => c' (aok_r.mp o).2
          · have e1 : decide (2 + (if true = true then 1 else 0) ≤ n) = false := by simp; omega
            rw [e1]
            wtm_at "s"
            exact qe fun o => c (aok_r.mp o).1
        | inr ps =>
          obtain ⟨b, rfl, hb⟩ := dp_ints hy
          wtm_at "s"
          exact qe aok_rr
      · rw [decide_eq_false c3]
        wtm_at "s"
        exact qe (aok_o c2 c3 c1)
abbrev sp_look_net (K : PySem.W.Frag) (A : Ad) : Sp := fun vs H Q E => ∃ v0, vs = [v0] ∧ pr_look_net K A v0 H Q E
theorem ok_look_net (T : Txt K mg A) : FnOk P w K mg base (L2.CX P w) 3 A.a_look_net A.d_look_net ["net"] (sp_look_net K A) := by
  refine T.F_look_net.okX sc_look_net (fun vs H Q E h => by obtain ⟨v0, rfl, _⟩ := h; rfl) (fun cdv A0 outer s H vs Q E hr h => ?_)
  obtain ⟨v0, rfl, h⟩ := h
  exact ⟨t_look_net K A E, (pss_cons (ps_asg (pv 0) (pg_tup (by rfl) (pgs_cons (pg_name (i := 1) sc_look_net.nd rfl (Or.inl rfl)) (pgs_cons (pg_name (i := 2) sc_look_net.nd rfl (Or.inl rfl)) pgs_nil))))
      (pss_cons (ps_if (pt_cmpR op_eq (pv 1) pe_str (nomark _)) (pss_one (ps_set (i := 3) sc_look_net.nd rfl (Or.inl rfl) (pe_and (pe_callB q_isi (by rfl) T.z_isinstance (by decide +kernel) (pa_cons (pv 2) (pa_cons (pe_bltn (v := .ty "list") (by rfl) T.z_list (by decide +kernel) rfl) pa_nil))) (pe_one (pe_call (ok_is_tree T) (hr.mono (by decide)) (by rfl) T.g_is_tree T.F_is_tree.kp T.b_is_tree .nil pass0 (pa_cons (pv 2) pa_nil)))))) (pss_one (ps_if (PW.pt (pw_or (pt_cmpR op_eq (pv 1) pe_str (nomark _)) (pw_or1 (pt_cmpR op_eq (pv 1) pe_str (nomark _))))) (pss_one (ps_set (i := 3) sc_look_net.nd rfl (Or.inl rfl) (pe_and (pe_not (pe_callB q_isi (by rfl) T.z_isinstance (by decide +kernel) (pa_cons (pv 2) (pa_cons (pe_bltn (v := .ty "list") (by rfl) T.z_list (by decide +kernel) rfl) pa_nil)))) (pe_and (pe_cmpR op_ge (pv 2) (pe_op op_add pe_int (pe_callTy q_intB (by rfl) T.z_int (by decide +kernel) (pa_cons (pe_cmpR op_eq (pv 1) pe_str (nomark _)) pa_nil))) (nomark _)) (pe_one (pe_cmpR op_le (pv 2) (pe_glob (v := .int 60) (by rfl) T.c_MOST_PLACES ⟨_, rfl⟩) (nomark _))))))) (pss_one (ps_set (i := 3) sc_look_net.nd rfl (Or.inl rfl) pe_bl)))))
      (pss_one (ps_if (pt_not (pt_val (pv 3))) (pss_one (ps_raise rfl (takes_of rfl rfl rfl rfl) (pmk_own PySem.F.excBase_ValueError T.e_NoNet T.k_NoNet T.p_NoNet (raises_own T.x_NoNet.hs T.t_NoNet) (by rfl)))) pss_nil)))), pure_look_net h⟩
def pr_must_be_kind (K : PySem.W.Frag) (A : Ad) (v0 v1 : V) (H : Hp) (Q : VK) (E : XK) : Prop := ∃ (M : ANet) (k : Str), v1 = .str k ∧ Dp K H v0 M.d ∧ M.lens ∧ ((¬ M.ok ∧ E (.ref A.c_NoNet) none H) ∨ (∃ N : Net, M = N.a ∧ N.ok ∧ N.kind ≠ k ∧ E (.ref A.c_OtherNet) none H) ∨ (∃ N : Net, M = N.a ∧ N.ok ∧ N.kind = k ∧ Q .non H))
def t_must_be_kind (K : PySem.W.Frag) (A : Ad) (E : XK) : TS :=
  (tSeq (tDrop (tCall (sp_look_net K A) [] E (tCons (tVar 0) tNil)))
    (tIfS (tTest (tOp rNe (tOp (rIxT K) (tVar 0) (tC (.int 0))) (tVar 1))) (tRaiseP A.c_OtherNet E) tNext))
theorem pure_must_be_kind {v0 v1 : V} {H : Hp} {Q : VK} {E : XK} (h : pr_must_be_kind K A v0 v1 H Q E) : t_must_be_kind K A E ⟨fun _ H' => Q .non H', Q, fun _ _ => False, fun _ _ => False⟩ [some v0, some v1] H := by
  obtain ⟨M, k, rfl, hd, hlen, h⟩ := h
  obtain ⟨a, y, rfl, hs, hy⟩ := dp_anet hd
  unfold t_must_be_kind
  wtm_at "s"
  rcases h with ⟨hn, hE⟩ | ⟨N, rfl, ok, hk, hE⟩ | ⟨N, rfl, ok, hk, hQ⟩
  · exact ⟨_, rfl, M, hd, hlen, .inl ⟨hn, hE⟩⟩
  · refine ⟨_, rfl, N.a, hd, hlen, .inr ⟨⟨N, rfl, ok⟩, ?_⟩⟩
    wtm_at "s"
    refine k_neS ?_
    rw [a_kd, decide_eq_false hk]
    wtm_at "s"
    exact hE
  · refine ⟨_, rfl, N.a, hd, hlen, .inr ⟨⟨N, rfl, ok⟩, ?_⟩⟩
    wtm_at "s"
    refine k_neS ?_
    rw [a_kd, decide_eq_true hk]
    wtm_at "s"
    exact hQ
abbrev sp_must_be_kind (K : PySem.W.Frag) (A : Ad) : Sp := fun vs H Q E => ∃ v0 v1, vs = [v0, v1] ∧ pr_must_be_kind K A v0 v1 H Q E
theorem ok_must_be_kind (T : Txt K mg A) : FnOk P w K mg base (L2.CX P w) 4 A.a_must_be_kind A.d_must_be_kind ["net", "kind"] (sp_must_be_kind K A) := by
  refine T.F_must_be_kind.okX sc_must_be_kind (fun vs H Q E h => by obtain ⟨v0, v1, rfl, _⟩ := h; rfl) (fun cdv A0 outer s H vs Q E hr h => ?_)
  obtain ⟨v0, v1, rfl, h⟩ := h
  exact ⟨t_must_be_kind K A E, (pss_cons (ps_expr (pe_call (E := E) (ok_look_net T) (hr.mono (by decide)) (by rfl) T.g_look_net T.F_look_net.kp T.b_look_net .nil (passes_call (takes_of rfl rfl rfl rfl) (fun _ _ _ _ h => h)) (pa_cons (pv 0) pa_nil)))
      (pss_one (ps_if (pt_cmpR op_ne (pe_ix ix_tup (pv 0) pe_int (fun _ _ => rfl)) (pv 1) (nomark _)) (pss_one (ps_raise rfl (takes_of rfl rfl rfl rfl) (pmk_own PySem.F.excBase_ValueError T.e_OtherNet T.k_OtherNet T.p_OtherNet (raises_own T.x_OtherNet.hs T.t_OtherNet) (by rfl)))) pss_nil))), pure_must_be_kind h⟩


def pr_places_of (K : PySem.W.Frag) (v0 : V) (H : Hp) (Q : VK) (_ : XK) : Prop := ∃ N : Net, Dp K H v0 N.d ∧ Q (.int N.places) H
def t_places_of (K : PySem.W.Frag) : TS :=
  (tSeq (tIfS (tTest (tOp rEq (tOp (rIxT K) (tVar 0) (tC (.int 0))) (tC (.str (Str.ofString "tree"))))) (tRet (tOp xAdd (tCB (rLenX K) (tCons (tOp (rIxT K) (tVar 0) (tC (.int 1))) tNil)) (tC (.int 1)))) tNext)
    (tRet (tOp (rIxT K) (tVar 0) (tC (.int 1)))))
theorem pure_places_of {v0 : V} {H : Hp} {Q : VK} {E : XK} (h : pr_places_of K v0 H Q E) : t_places_of K ⟨fun _ H' => Q .non H', Q, fun _ _ => False, fun _ _ => False⟩ [some v0] H := by
  obtain ⟨N, hd, q⟩ := h
  obtain ⟨a, y, rfl, hs, hy⟩ := dp_net hd
  unfold t_places_of
  wtm_at "s"
  refine k_eqS ?_
  cases N with
  | line n =>
    obtain rfl := dp_int hy
    rw [show Net.kind (.line n) = Str.ofString "line" from rfl, s_lt]
    wtm_at "s"
    exact q
  | ring n =>
    obtain rfl := dp_int hy
    rw [show Net.kind (.ring n) = Str.ofString "ring" from rfl, s_rt]
    wtm_at "s"
    exact q
  | tree ps =>
    obtain ⟨b, rfl, hb⟩ := dp_ints hy
    rw [show Net.kind (.tree ps) = Str.ofString "tree" from rfl, s_same]
    wtm_at "s"
    exact q
abbrev sp_places_of (K : PySem.W.Frag) : Sp := fun vs H Q E => ∃ v0, vs = [v0] ∧ pr_places_of K v0 H Q E
theorem ok_places_of (T : Txt K mg A) : FnOk P w K mg base CX0 1 A.a_places_of A.d_places_of ["net"] (sp_places_of K) := by
  refine T.F_places_of.ok sc_places_of (fun vs H Q E h => by obtain ⟨v0, rfl, _⟩ := h; rfl) (fun cdv A0 outer s H vs Q E hr h => ?_)
  obtain ⟨v0, rfl, h⟩ := h
  exact ⟨t_places_of K, (pss_cons (ps_if (pt_cmpR op_eq (pe_ix ix_tup (pv 0) pe_int (fun _ _ => rfl)) pe_str (nomark _)) (pss_one (ps_ret (pe_op op_add (pe_callB q_len (by rfl) T.z_len (by decide +kernel) (pa_cons (pe_ix ix_tup (pv 0) pe_int (fun _ _ => rfl)) pa_nil)) pe_int))) pss_nil)
      (pss_one (ps_ret (pe_ix ix_tup (pv 0) pe_int (fun _ _ => rfl))))), pure_places_of h⟩
def pr_is_way (K : PySem.W.Frag) (v0 v1 : V) (H : Hp) (Q : VK) (_ : XK) : Prop := ∃ (N : Net) (a b : Int), Dp K H v0 N.d ∧ Dp K H v1 (dPair (a, b)) ∧ Q (.bl (decide (isWay N a b))) H
def t_is_way (K : PySem.W.Frag) : TS :=
  (tSeq (tAsg (tVar 1) (gTup K 2 (gCons (gName 2) (gCons (gName 3) gNil))))
    (tRet (tAndV (tOp rNe (tVar 2) (tVar 3)) (tAndV (tOp xGe (tCB rMin2 (tCons (tVar 2) (tCons (tVar 3) tNil))) (tC (.int 0))) (tOp xLt (tCB rMax2 (tCons (tVar 2) (tCons (tVar 3) tNil))) (tCall (sp_places_of K) [] E0 (tCons (tVar 0) tNil)))))))
theorem pure_is_way {v0 v1 : V} {H : Hp} {Q : VK} {E : XK} (h : pr_is_way K v0 v1 H Q E) : t_is_way K ⟨fun _ H' => Q .non H', Q, fun _ _ => False, fun _ _ => False⟩ [some v0, some v1, none, none] H := by
  obtain ⟨N, a, b, hd, hw, q⟩ := h
  obtain ⟨p, rfl, hp⟩ := dp_pair hw
  have kk : ∀ r : Bool, (r = true ↔ isWay N a b) → Q (.bl r) H := fun r hr => by
    have : r = decide (isWay N a b) := by
      by_cases c : isWay N a b
      · rw [decide_eq_true c]; exact hr.mpr c
      · rw [decide_eq_false c]
        cases r with
        | false => rfl
        | true => exact absurd (hr.mp rfl) c
    rw [this]; exact q
  unfold t_is_way
  wtm_at "s"
  refine k_itn (fun c1 => ?_) (fun c1 => ?_)
  · wtm_at "s"
    refine k_it (fun c2 => ?_) (fun c2 => ?_)
    · wtm_at "s"
      refine ⟨_, rfl, N, hd, ?_⟩
      wtm_at "s"
      refine kk _ ?_
      simp only [decide_eq_true_eq, isWay]
      constructor
      · intro z
        split at z <;> split at c2 <;> omega
      · intro z
        split <;> omega
    · wtm_at "s"
      refine kk _ (ff_iff fun z => c2 ?_)
      obtain ⟨z1, z2, z3, z4, z5⟩ := z
      split <;> omega
  · wtm_at "s"
    exact kk _ (ff_iff fun z => z.1 c1)
abbrev sp_is_way (K : PySem.W.Frag) : Sp := fun vs H Q E => ∃ v0 v1, vs = [v0, v1] ∧ pr_is_way K v0 v1 H Q E
theorem ok_is_way (T : Txt K mg A) : FnOk P w K mg base CX0 2 A.a_is_way A.d_is_way ["net", "way"] (sp_is_way K) := by
  refine T.F_is_way.ok sc_is_way (fun vs H Q E h => by obtain ⟨v0, v1, rfl, _⟩ := h; rfl) (fun cdv A0 outer s H vs Q E hr h => ?_)
  obtain ⟨v0, v1, rfl, h⟩ := h
  exact ⟨t_is_way K, (pss_cons (ps_asg (pv 1) (pg_tup (by rfl) (pgs_cons (pg_name (i := 2) sc_is_way.nd rfl (Or.inl rfl)) (pgs_cons (pg_name (i := 3) sc_is_way.nd rfl (Or.inl rfl)) pgs_nil))))
      (pss_one (ps_ret (pe_and (pe_cmpR op_ne (pv 2) (pv 3) (nomark _)) (pe_and (pe_cmpR op_ge (pe_callB (q_min2 (by rfl)) (by rfl) T.z_min (by decide +kernel) (pa_cons (pv 2) (pa_cons (pv 3) pa_nil))) pe_int (nomark _)) (pe_one (pe_cmpR op_lt (pe_callB (q_max2 (by rfl)) (by rfl) T.z_max (by decide +kernel) (pa_cons (pv 2) (pa_cons (pv 3) pa_nil))) (pe_call (ok_places_of T) (hr.mono (by decide)) (by rfl) T.g_places_of T.F_places_of.kp T.b_places_of .nil pass0 (pa_cons (pv 0) pa_nil)) (nomark _)))))))), pure_is_way h⟩


theorem below_lt {ps : List Int} {k : Nat} : ∀ x, x < k → below ps k x = false
  | 0, h => by unfold below; exact decide_eq_false (by omega)
  | x + 1, h => by
    unfold below
    rw [decide_eq_false (show ¬ k = x + 1 by omega), decide_eq_false (show ¬ k < x + 1 by omega)]; rfl
theorem below_self {ps : List Int} (k : Nat) : below ps k k = true := by
  cases k with
  | zero => unfold below; rfl
  | succ x => unfold below; rw [decide_eq_true rfl]; rfl
theorem below_step {ps : List Int} (h : TreeOk ps) {k x : Nat} (hx : x < ps.length) (hk : k ≠ x + 1) : below ps k (x + 1) = below ps k (ps.getD x 0).toNat := by
  have hp := h.2.2 x hx
  have hlt : (ps.getD x 0).toNat < x + 1 := by omega
  rw [below, decide_eq_false hk, Bool.false_or, dif_pos hlt]
  by_cases c : k < x + 1
  · rw [decide_eq_true c, Bool.true_and]
  · rw [decide_eq_false c, Bool.false_and, below_lt _ (by omega)]
theorem ring_step {n a b t : Int} (a0 : 0 ≤ a) (a1 : a < n) (b0 : 0 ≤ b) (b1 : b < n) (ne : a ≠ b) (t0 : 0 ≤ t) (t1 : t < n) :
    (up n a t < up n a b ↔ t = a ∨ up n ((a + 1) % n) t < up n ((a + 1) % n) b) ∧ (t = a → ¬ up n ((a + 1) % n) t < up n ((a + 1) % n) b) := by
  have e : (a + 1) % n = if a + 1 = n then 0 else a + 1 := by
    split
    · rename_i h; rw [h]; exact Int.emod_self
    · exact Int.emod_eq_of_lt (by omega) (by omega)
  rw [e]
  unfold up
  constructor
  · constructor
    · intro h; repeat' split at h
      all_goals repeat' split
      all_goals omega
    · intro h; repeat' split at h
      all_goals repeat' split
      all_goals omega
  · intro h; subst h
    repeat' split
    all_goals omega
theorem ring_far {n a b : Int} (a0 : 0 ≤ a) (a1 : a < n) (b0 : 0 ≤ b) (b1 : b < n) (ne : a ≠ b) : up n ((a + 1) % n) b = up n a b - 1 ∧ 0 ≤ (a + 1) % n ∧ (a + 1) % n < n ∧ 0 < up n a b ∧ up n a b < n := by
  have e : (a + 1) % n = if a + 1 = n then 0 else a + 1 := by
    split
    · rename_i h; rw [h]; exact Int.emod_self
    · exact Int.emod_eq_of_lt (by omega) (by omega)
  rw [e]
  unfold up
  refine ⟨?_, ?_, ?_, ?_, ?_⟩ <;> repeat' split
  all_goals omega
theorem up_self (n a : Int) : up n a a = 0 := by unfold up; split <;> omega
theorem up_nonneg {n a b : Int} (a0 : 0 ≤ a) (a1 : a < n) (b0 : 0 ≤ b) (b1 : b < n) : 0 ≤ up n a b := by unfold up; split <;> omega
/-- the greater end climbs -/
theorem tree_step {ps : List Int} (h : TreeOk ps) {x y t : Int} (x0 : 0 ≤ x) (x1 : x < ps.length + 1) (y0 : 0 ≤ y) (yx : y < x) (t0 : 0 ≤ t) :
    (below ps (t.toNat + 1) x.toNat ≠ below ps (t.toNat + 1) y.toNat ↔ t = x - 1 ∨ below ps (t.toNat + 1) (ps.getD (x - 1).toNat 0).toNat ≠ below ps (t.toNat + 1) y.toNat) ∧
    (t = x - 1 → ¬ below ps (t.toNat + 1) (ps.getD (x - 1).toNat 0).toNat ≠ below ps (t.toNat + 1) y.toNat) := by
  have hp := h.2.2 (x - 1).toNat (by omega)
  by_cases c : t = x - 1
  · subst c
    have e1 : (x - 1).toNat + 1 = x.toNat := by omega
    rw [e1, below_self, below_lt y.toNat (by omega), below_lt (ps.getD (x - 1).toNat 0).toNat (by omega)]
    simp
  · have e1 : x.toNat = (x - 1).toNat + 1 := by omega
    have := below_step h (k := t.toNat + 1) (x := (x - 1).toNat) (by omega) (by omega)
    rw [e1, this]
    simp [c]
theorem srt_of {fs ns : List Int} (nd : fs.Nodup) (pm : ns.Perm fs) (srt : ns.Pairwise (· ≤ ·)) : ns.Pairwise (· < ·) := by
  have := srt.and (pm.nodup_iff.mpr nd)
  exact this.imp fun ⟨a, b⟩ => by omega
def pr_ties_on (K : PySem.W.Frag) (v0 v1 : V) (H : Hp) (Q : VK) (_ : XK) : Prop := ∃ (N : Net) (a b : Int), Dp K H v0 N.d ∧ Dp K H v1 (dPair (a, b)) ∧ N.ok ∧ isWay N a b ∧ ∀ p ns H', H p = none → Same H H' → H' p = some (.lst (List.map V.int ns)) → TiesOf N a b ns → Q (.ref p) H'
def t_ties_on (K : PySem.W.Frag) : TS :=
  (tSeq (tAsg (tVar 1) (gTup K 2 (gCons (gName 2) (gCons (gName 3) gNil))))
    (tSeq (tAsg (tLst tNil) (gName 4))
    (tSeq (tIfS (tTest (tOp rEq (tOp (rIxT K) (tVar 0) (tC (.int 0))) (tC (.str (Str.ofString "line"))))) (tRet (tLstRg (tRg2 (tCB rMin2 (tCons (tVar 2) (tCons (tVar 3) tNil))) (tCB rMax2 (tCons (tVar 2) (tCons (tVar 3) tNil)))))) tNext)
    (tSeq (tWhile (tTest (tOp rNe (tVar 2) (tVar 3)))
      (tIfS (tTest (tOp rEq (tOp (rIxT K) (tVar 0) (tC (.int 0))) (tC (.str (Str.ofString "ring"))))) (tSeq (tDrop (tBM K "list" rAppend (tVar 4) (tCons (tVar 2) tNil)))
    (tAsg (tOp xMod (tOp xAdd (tVar 2) (tC (.int 1))) (tOp (rIxT K) (tVar 0) (tC (.int 1)))) (gName 2))) (tIfS (tTest (tOp xGt (tVar 2) (tVar 3))) (tSeq (tDrop (tBM K "list" rAppend (tVar 4) (tCons (tOp xSub (tVar 2) (tC (.int 1))) tNil)))
    (tAsg (tOp (rIxL K) (tOp (rIxT K) (tVar 0) (tC (.int 1))) (tOp xSub (tVar 2) (tC (.int 1)))) (gName 2))) (tSeq (tDrop (tBM K "list" rAppend (tVar 4) (tCons (tOp xSub (tVar 3) (tC (.int 1))) tNil)))
    (tAsg (tOp (rIxL K) (tOp (rIxT K) (tVar 0) (tC (.int 1))) (tOp xSub (tVar 3) (tC (.int 1)))) (gName 3))))))
    (tRet (tCB (rSortedI K) (tCons (tVar 4) tNil)))))))
def Net.far2 (N : Net) (a b a' b' : Int) (fs : List Int) (m : Nat) : Prop := match N with
  | .line _ => True
  | .ring n => (m : Int) = up n a' b' ∧ (fs.length : Int) + m = up n a b
  | .tree _ => (m : Int) = a' + b' ∧ (fs.length : Int) + m ≤ a + b
theorem pure_ties_on {v0 v1 : V} {H : Hp} {Q : VK} {E : XK} (h : pr_ties_on K v0 v1 H Q E) : t_ties_on K ⟨fun _ H' => Q .non H', Q, fun _ _ => False, fun _ _ => False⟩ [some v0, some v1, none, none, none] H := by
  obtain ⟨N, a, b, hd, hw, ok, ⟨w1, w2, w3, w4, w5⟩, q⟩ := h
  obtain ⟨c, y, rfl, hs, hy⟩ := dp_net hd
  obtain ⟨p, rfl, hp⟩ := dp_pair hw
  unfold t_ties_on
  wtm_at "s"
  refine ⟨sz (by simp), fun fo nfo => ?_⟩
  have s1 := same_new (o := .lst []) nfo
  have e1 : upd H fo (.lst []) fo = some (.lst (List.map V.int [])) := upd_same
  generalize upd H fo (.lst []) = H1 at s1 e1 ⊢
  wtm_at "s"
  refine k_eqS ?_
  have loop : ∀ (nx : L2.St → Hp → Prop) (bk ct : L2.St → Hp → Prop), (match N with | .line _ => False | _ => True) → ∀ (W : Nat → L2.St → Hp → Prop), True := fun _ _ _ _ _ => trivial
  cases N with
  | line n =>
    obtain rfl := dp_int hy
    rw [show Net.kind (.line n) = Str.ofString "line" from rfl, s_same]
    obtain ⟨o1, o2⟩ := ok
    have w4' : a < n := w4
    have w5' : b < n := w5
    wtm_at "s"
    have hmn : (if b < a then b else a) = min a b := by split <;> omega
    have hmx : (if b > a then b else a) = max a b := by split <;> omega
    rw [hmn, hmx]
    refine ⟨.of_le (by omega) (by omega) (by omega) (by omega), fun l nl => ?_⟩
    refine q l ((List.range (max a b - min a b).toNat).map fun i => min a b + (i : Nat)) _ (s1.free nl) (s1.trans (same_new nl)) (by rw [upd_same, rg_ints]) ⟨?_, fun t => ?_, ?_⟩
    · exact List.pairwise_map.mpr (List.pairwise_lt_range.imp fun h => by omega)
    · show _ ↔ min a b ≤ t ∧ t < max a b
      rw [List.mem_map]
      constructor
      · rintro ⟨i, hi, rfl⟩
        have := List.mem_range.mp hi
        omega
      · intro h
        exact ⟨(t - min a b).toNat, List.mem_range.mpr (by omega), by omega⟩
    · show ((List.map _ _).length : Int) = max a b - min a b
      rw [List.length_map, List.length_range]
      omega
  | ring n =>
    obtain rfl := dp_int hy
    rw [show Net.kind (.ring n) = Str.ofString "ring" from rfl] at hs ⊢
    rw [s_rl]
    obtain ⟨o1, o2⟩ := ok
    have w4' : a < n := w4
    have w5' : b < n := w5
    have u0 := up_nonneg w2 w4' w3 w5'
    wtm_at "s"
    refine ⟨fun m σ' H' => ∃ a' fs, σ' = [some (.ref c), some (.ref p), some (.int a'), some (.int b), some (.ref fo)] ∧ Same H H' ∧ H' fo = some (.lst (List.map V.int fs)) ∧ 0 ≤ a' ∧ a' < n ∧ fs.Nodup ∧ (m : Int) = up n a' b ∧ (fs.length : Int) + m = up n a b ∧
      (∀ t, OnTie (.ring n) a b t ↔ t ∈ fs ∨ OnTie (.ring n) a' b t) ∧ (∀ t, t ∈ fs → ¬ OnTie (.ring n) a' b t),
      ⟨(up n a b).toNat, a, [], rfl, s1, e1, w2, w4', List.nodup_nil, by omega, by simp; omega, fun t => by simp, fun t z => by cases z⟩, ?_⟩
    rintro m σ' H' ⟨a', fs, rfl, sm, hf, a0, a1, nd, hm, hfl, ht, hn⟩
    wtm_at "s"
    refine k_itn (fun c1 => ?_) (fun c1 => ?_)
    · obtain ⟨f1, f2, f3, f4, f5⟩ := ring_far a0 a1 w3 w5' c1
      have uab : up n a b < n := by unfold up; split <;> omega
      refine ⟨fun σ' H' => ∃ fs', σ' = [some (.ref c), some (.ref p), some (.int ((a' + 1) % n)), some (.int b), some (.ref fo)] ∧ Same H H' ∧ H' fo = some (.lst (List.map V.int fs')) ∧ fs'.Nodup ∧ (fs'.length : Int) + (m - 1 : Nat) = up n a b ∧
        (∀ t, OnTie (.ring n) a b t ↔ t ∈ fs' ∨ OnTie (.ring n) ((a' + 1) % n) b t) ∧ (∀ t, t ∈ fs' → ¬ OnTie (.ring n) ((a' + 1) % n) b t), fun σ' H' ⟨fs', e, g1, g2, g3, g4, g5, g6⟩ => ⟨m - 1, by omega, _, fs', e, g1, g2, f2, f3, g3, by omega, g4, g5, g6⟩, ?_⟩
      have hs' : SqT K H' c [.str (Str.ofString "ring"), .int n] := same_seqT sm hs
      wtm_at "s"
      refine k_eqS ?_
      rw [s_same]
      wtm_at "s"
      refine k_tyL (sl hf) ?_
      wtm_at "s"
      refine k_append hf (by rw [List.length_map]; omega) ?_
      have hs2 : SqT K (upd H' fo (.lst (List.map V.int fs ++ [.int a']))) c [.str (Str.ofString "ring"), .int n] := same_seqT (same_mut sm nfo) hs
      wtm_at "s"
      refine ⟨fs ++ [a'], rfl, same_mut sm nfo, by rw [upd_same, List.map_append]; rfl, ?_, ?_, fun t => ?_, fun t z => ?_⟩
      · refine List.nodup_append.mpr ⟨nd, by simp, fun x hx y hy e => ?_⟩
        have : y = a' := by simpa using hy
        subst this; subst e
        exact hn x hx ⟨a0, a1, by rw [up_self]; exact f4⟩
      · rw [List.length_append]; show ((fs.length + 1 : Nat) : Int) + _ = _; omega
      · rw [ht t, List.mem_append]
        show t ∈ fs ∨ (0 ≤ t ∧ t < n ∧ up n a' t < up n a' b) ↔ (t ∈ fs ∨ t ∈ [a']) ∨ (0 ≤ t ∧ t < n ∧ _)
        by_cases r : 0 ≤ t ∧ t < n
        · have st := (ring_step a0 a1 w3 w5' c1 r.1 r.2).1
          simp only [r.1, r.2, true_and, List.mem_singleton, st, or_assoc]
        · have : t ≠ a' := fun e => r (by omega)
          constructor
          · rintro (h | h)
            · exact .inl (.inl h)
            · exact absurd ⟨h.1, h.2.1⟩ r
          · rintro ((h | h) | h)
            · exact .inl h
            · exact absurd (by simpa using h) this
            · exact absurd ⟨h.1, h.2.1⟩ r
      · rcases List.mem_append.mp z with z | z
        · intro o
          obtain ⟨o1, o2, o3⟩ := o
          exact hn t z ⟨o1, o2, (ring_step a0 a1 w3 w5' c1 o1 o2).1.mpr (.inr o3)⟩
        · have e : t = a' := by simpa using z
          intro o
          obtain ⟨o1, o2, o3⟩ := o
          exact (ring_step a0 a1 w3 w5' c1 o1 o2).2 e o3
    · subst c1
      rw [up_self] at hm
      wtm_at "s"
      refine k_sortedI (sl hf) (fun ns l pm srt nl => ?_)
      refine q l ns _ (sm.free nl) (sm.trans (same_new nl)) upd_same ⟨srt_of nd pm srt, fun t => ?_, ?_⟩
      · rw [pm.mem_iff, ht t]
        constructor
        · exact .inl
        · rintro (h | h)
          · exact h
          · obtain ⟨_, _, h⟩ := h
            rw [up_self] at h
            have := up_nonneg a0 a1 (b := t) (by assumption) (by assumption)
            omega
      · show (ns.length : Int) = up n a a'
        rw [pm.length_eq]; omega
  | tree ps =>
    obtain ⟨d, rfl, hdl⟩ := dp_ints hy
    rw [show Net.kind (.tree ps) = Str.ofString "tree" from rfl] at hs ⊢
    rw [s_tl]
    have w4' : a < ps.length + 1 := w4
    have w5' : b < ps.length + 1 := w5
    have l60 := ok.2.1
    wtm_at "s"
    refine ⟨fun m σ' H' => ∃ a' b' fs, σ' = [some (.ref c), some (.ref p), some (.int a'), some (.int b'), some (.ref fo)] ∧ Same H H' ∧ H' fo = some (.lst (List.map V.int fs)) ∧ 0 ≤ a' ∧ a' < ps.length + 1 ∧ 0 ≤ b' ∧ b' < ps.length + 1 ∧ fs.Nodup ∧ (m : Int) = a' + b' ∧ (fs.length : Int) + m ≤ a + b ∧
      (∀ t, OnTie (.tree ps) a b t ↔ t ∈ fs ∨ OnTie (.tree ps) a' b' t) ∧ (∀ t, t ∈ fs → ¬ OnTie (.tree ps) a' b' t),
      ⟨(a + b).toNat, a, b, [], rfl, s1, e1, w2, w4', w3, w5', List.nodup_nil, by omega, by simp; omega, fun t => by simp, fun t z => by cases z⟩, ?_⟩
    rintro m σ' H' ⟨a', b', fs, rfl, sm, hf, a0, a1, b0, b1, nd, hm, hfl, ht, hn⟩
    wtm_at "s"
    refine k_itn (fun c1 => ?_) (fun c1 => ?_)
    · refine ⟨fun σ' H' => ∃ m' a2 b2 fs', m' < m ∧ σ' = [some (.ref c), some (.ref p), some (.int a2), some (.int b2), some (.ref fo)] ∧ Same H H' ∧ H' fo = some (.lst (List.map V.int fs')) ∧ 0 ≤ a2 ∧ a2 < ps.length + 1 ∧ 0 ≤ b2 ∧ b2 < ps.length + 1 ∧ fs'.Nodup ∧ (m' : Int) = a2 + b2 ∧ (fs'.length : Int) + m' ≤ a + b ∧
        (∀ t, OnTie (.tree ps) a b t ↔ t ∈ fs' ∨ OnTie (.tree ps) a2 b2 t) ∧ (∀ t, t ∈ fs' → ¬ OnTie (.tree ps) a2 b2 t), fun σ' H' ⟨m', a2, b2, fs', l, r⟩ => ⟨m', l, a2, b2, fs', r⟩, ?_⟩
      have hs' : SqT K H' c [.str (Str.ofString "tree"), .ref d] := same_seqT sm hs
      wtm_at "s"
      refine k_eqS ?_
      rw [s_tr]
      wtm_at "s"
      refine k_it (fun c2 => ?_) (fun c2 => ?_)
      · have hpa := ok.2.2 (a' - 1).toNat (by omega)
        wtm_at "s"
        refine k_tyL (sl hf) ?_
        wtm_at "s"
        refine k_append hf (by rw [List.length_map]; omega) ?_
        have sm2 : Same H (upd H' fo (.lst (List.map V.int fs ++ [.int (a' - 1)]))) := same_mut sm nfo
        have hs2 : SqT K (upd H' fo (.lst (List.map V.int fs ++ [.int (a' - 1)]))) c [.str (Str.ofString "tree"), .ref d] := same_seqT sm2 hs
        wtm_at "s"
        refine k_ixI (sm2.seq hdl) (by omega) (by omega) ?_
        wtm_at "s"
        refine ⟨(ps.getD (a' - 1).toNat 0 + b').toNat, _, _, fs ++ [a' - 1], by omega, rfl, sm2, by rw [upd_same, List.map_append]; rfl, by omega, by omega, b0, b1, ?_, by omega, ?_, fun t => ?_, fun t z => ?_⟩
        · refine List.nodup_append.mpr ⟨nd, by simp, fun x hx y hy e => ?_⟩
          have : y = a' - 1 := by simpa using hy
          subst this; subst e
          exact hn _ hx ⟨by omega, by omega, (tree_step ok a0 a1 b0 c2 (by omega)).1.mpr (.inl rfl)⟩
        · rw [List.length_append]; show ((fs.length + 1 : Nat) : Int) + _ ≤ _; omega
        · rw [ht t, List.mem_append]
          show t ∈ fs ∨ (0 ≤ t ∧ t < ps.length ∧ _) ↔ (t ∈ fs ∨ t ∈ [a' - 1]) ∨ (0 ≤ t ∧ t < ps.length ∧ _)
          by_cases r : 0 ≤ t ∧ t < ps.length
          · have st := (tree_step ok a0 a1 b0 c2 r.1).1
            simp only [r.1, r.2, true_and, List.mem_singleton, st, or_assoc]
          · have : t ≠ a' - 1 := fun e => r (by omega)
            constructor
            · rintro (h | h)
              · exact .inl (.inl h)
              · exact absurd ⟨h.1, h.2.1⟩ r
            · rintro ((h | h) | h)
              · exact .inl h
              · exact absurd (by simpa using h) this
              · exact absurd ⟨h.1, h.2.1⟩ r
        · rcases List.mem_append.mp z with z | z
          · rintro ⟨o1, o2, o3⟩
            exact hn t z ⟨o1, o2, (tree_step ok a0 a1 b0 c2 o1).1.mpr (.inr o3)⟩
          · have e : t = a' - 1 := by simpa using z
            rintro ⟨o1, o2, o3⟩
            exact (tree_step ok a0 a1 b0 c2 o1).2 e o3
      · have c3 : a' < b' := by omega
        have hpb := ok.2.2 (b' - 1).toNat (by omega)
        have sym : ∀ u v t, OnTie (.tree ps) u v t ↔ OnTie (.tree ps) v u t := fun u v t => by
          show (_ ∧ _ ∧ _ ≠ _) ↔ (_ ∧ _ ∧ _ ≠ _)
          constructor
          · rintro ⟨x1, x2, x3⟩; exact ⟨x1, x2, x3.symm⟩
          · rintro ⟨x1, x2, x3⟩; exact ⟨x1, x2, x3.symm⟩
        wtm_at "s"
        refine k_tyL (sl hf) ?_
        wtm_at "s"
        refine k_append hf (by rw [List.length_map]; omega) ?_
        have sm2 : Same H (upd H' fo (.lst (List.map V.int fs ++ [.int (b' - 1)]))) := same_mut sm nfo
        have hs2 : SqT K (upd H' fo (.lst (List.map V.int fs ++ [.int (b' - 1)]))) c [.str (Str.ofString "tree"), .ref d] := same_seqT sm2 hs
        wtm_at "s"
        refine k_ixI (sm2.seq hdl) (by omega) (by omega) ?_
        wtm_at "s"
        refine ⟨(a' + ps.getD (b' - 1).toNat 0).toNat, _, _, fs ++ [b' - 1], by omega, rfl, sm2, by rw [upd_same, List.map_append]; rfl, a0, a1, by omega, by omega, ?_, by omega, ?_, fun t => ?_, fun t z => ?_⟩
        · refine List.nodup_append.mpr ⟨nd, by simp, fun x hx y hy e => ?_⟩
          have : y = b' - 1 := by simpa using hy
          subst this; subst e
          exact hn _ hx ((sym _ _ _).mpr ⟨by omega, by omega, (tree_step ok b0 b1 a0 c3 (by omega)).1.mpr (.inl rfl)⟩)
        · rw [List.length_append]; show ((fs.length + 1 : Nat) : Int) + _ ≤ _; omega
        · rw [ht t, List.mem_append, sym a' b', sym a' (ps.getD (b' - 1).toNat 0)]
          show t ∈ fs ∨ (0 ≤ t ∧ t < ps.length ∧ _) ↔ (t ∈ fs ∨ t ∈ [b' - 1]) ∨ (0 ≤ t ∧ t < ps.length ∧ _)
          by_cases r : 0 ≤ t ∧ t < ps.length
          · have st := (tree_step ok b0 b1 a0 c3 r.1).1
            simp only [r.1, r.2, true_and, List.mem_singleton, st, or_assoc]
          · have : t ≠ b' - 1 := fun e => r (by omega)
            constructor
            · rintro (h | h)
              · exact .inl (.inl h)
              · exact absurd ⟨h.1, h.2.1⟩ r
            · rintro ((h | h) | h)
              · exact .inl h
              · exact absurd (by simpa using h) this
              · exact absurd ⟨h.1, h.2.1⟩ r
        · rw [sym]
          rcases List.mem_append.mp z with z | z
          · rintro ⟨o1, o2, o3⟩
            exact hn t z ((sym _ _ _).mpr ⟨o1, o2, (tree_step ok b0 b1 a0 c3 o1).1.mpr (.inr o3)⟩)
          · have e : t = b' - 1 := by simpa using z
            rintro ⟨o1, o2, o3⟩
            exact (tree_step ok b0 b1 a0 c3 o1).2 e o3
    · subst c1
      wtm_at "s"
      refine k_sortedI (sl hf) (fun ns l pm srt nl => ?_)
      refine q l ns _ (sm.free nl) (sm.trans (same_new nl)) upd_same ⟨srt_of nd pm srt, fun t => ?_, ?_⟩
      · rw [pm.mem_iff, ht t]
        constructor
        · exact .inl
        · rintro (h | h)
          · exact h
          · exact absurd rfl h.2.2
      · show ns.length < 120
        rw [pm.length_eq]; omega
abbrev sp_ties_on (K : PySem.W.Frag) : Sp := fun vs H Q E => ∃ v0 v1, vs = [v0, v1] ∧ pr_ties_on K v0 v1 H Q E
theorem ok_ties_on (T : Txt K mg A) : FnOk P w K mg base CX0 1 A.a_ties_on A.d_ties_on ["net", "way"] (sp_ties_on K) := by
  refine T.F_ties_on.ok sc_ties_on (fun vs H Q E h => by obtain ⟨v0, v1, rfl, _⟩ := h; rfl) (fun cdv A0 outer s H vs Q E hr h => ?_)
  obtain ⟨v0, v1, rfl, h⟩ := h
  exact ⟨t_ties_on K, (pss_cons (ps_asg (pv 1) (pg_tup (by rfl) (pgs_cons (pg_name (i := 2) sc_ties_on.nd rfl (Or.inl rfl)) (pgs_cons (pg_name (i := 3) sc_ties_on.nd rfl (Or.inl rfl)) pgs_nil))))
      (pss_cons (ps_set (i := 4) sc_ties_on.nd rfl (Or.inl rfl) (pe_lst pa_nil))
      (pss_cons (ps_if (pt_cmpR op_eq (pe_ix ix_tup (pv 0) pe_int (fun _ _ => rfl)) pe_str (nomark _)) (pss_one (ps_ret (pe_listRg (by rfl) (by rfl) T.z_list (prg_2 (by rfl) T.z_range (pe_callB (q_min2 (by rfl)) (by rfl) T.z_min (by decide +kernel) (pa_cons (pv 2) (pa_cons (pv 3) pa_nil))) (pe_callB (q_max2 (by rfl)) (by rfl) T.z_max (by decide +kernel) (pa_cons (pv 2) (pa_cons (pv 3) pa_nil))))))) pss_nil)
      (pss_cons (ps_while PassesOwn.never (pt_cmpR op_ne (pv 2) (pv 3) (nomark _))
      (pss_one (ps_if (pt_cmpR op_eq (pe_ix ix_tup (pv 0) pe_int (fun _ _ => rfl)) pe_str (nomark _)) (pss_cons (ps_expr (pe_bm PySem.F.plainAttrs_list PySem.F.slot_list_append PySem.F.type_list_append mt_append (pv 4) (pa_cons (pv 2) pa_nil)))
      (pss_one (ps_set (i := 2) sc_ties_on.nd rfl (Or.inl rfl) (pe_op op_mod (pe_op op_add (pv 2) pe_int) (pe_ix ix_tup (pv 0) pe_int (fun _ _ => rfl)))))) (pss_one (ps_if (pt_cmpR op_gt (pv 2) (pv 3) (nomark _)) (pss_cons (ps_expr (pe_bm PySem.F.plainAttrs_list PySem.F.slot_list_append PySem.F.type_list_append mt_append (pv 4) (pa_cons (pe_op op_sub (pv 2) pe_int) pa_nil)))
      (pss_one (ps_set (i := 2) sc_ties_on.nd rfl (Or.inl rfl) (pe_ix ix_list (pe_ix ix_tup (pv 0) pe_int (fun _ _ => rfl)) (pe_op op_sub (pv 2) pe_int) (fun _ _ => rfl))))) (pss_cons (ps_expr (pe_bm PySem.F.plainAttrs_list PySem.F.slot_list_append PySem.F.type_list_append mt_append (pv 4) (pa_cons (pe_op op_sub (pv 3) pe_int) pa_nil)))
      (pss_one (ps_set (i := 3) sc_ties_on.nd rfl (Or.inl rfl) (pe_ix ix_list (pe_ix ix_tup (pv 0) pe_int (fun _ _ => rfl)) (pe_op op_sub (pv 3) pe_int) (fun _ _ => rfl))))))))))
      (pss_one (ps_ret (pe_callB cr_sortedI (by rfl) T.z_sorted (by decide +kernel) (pa_cons (pv 4) pa_nil)))))))), pure_ties_on h⟩


theorem ok_init_NoWay (T : Txt K mg A) : FnOk P w K mg base CX0 1 A.i_NoWay A.di_NoWay ["self", "at"] (spInit A.c_NoWay (Str.ofString "at")) := by
  refine T.Fi_NoWay.ok sc_init_NoWay (fun vs H Q E h => by obtain ⟨v0, v1, rfl, _⟩ := h; rfl) (fun cdv A0 outer s H vs Q E hr h => ?_)
  obtain ⟨v0, v1, rfl, h⟩ := h
  exact ⟨_, pss_cons (ps_expr (pe_binit T.base_ (by rfl) (pa_cons (pv 0) (pa_cons pe_str pa_nil)))) (pss_one (ps_ost (pv 0) (pv 1))), init_reads (B := A.c_TieError) T.o_NoWay T.nf_NoWay h⟩
theorem ok_init_NoHues (T : Txt K mg A) : FnOk P w K mg base CX0 1 A.i_NoHues A.di_NoHues ["self", "place"] (spInit A.c_NoHues (Str.ofString "place")) := by
  refine T.Fi_NoHues.ok sc_init_NoHues (fun vs H Q E h => by obtain ⟨v0, v1, rfl, _⟩ := h; rfl) (fun cdv A0 outer s H vs Q E hr h => ?_)
  obtain ⟨v0, v1, rfl, h⟩ := h
  exact ⟨_, pss_cons (ps_expr (pe_binit T.base_ (by rfl) (pa_cons (pv 0) (pa_cons pe_str pa_nil)))) (pss_one (ps_ost (pv 0) (pv 1))), init_reads (B := A.c_TieError) T.o_NoHues T.nf_NoHues h⟩
theorem ok_init_NoText (T : Txt K mg A) : FnOk P w K mg base CX0 1 A.i_NoText A.di_NoText ["self", "row"] (spInit A.c_NoText (Str.ofString "row")) := by
  refine T.Fi_NoText.ok sc_init_NoText (fun vs H Q E h => by obtain ⟨v0, v1, rfl, _⟩ := h; rfl) (fun cdv A0 outer s H vs Q E hr h => ?_)
  obtain ⟨v0, v1, rfl, h⟩ := h
  exact ⟨_, pss_cons (ps_expr (pe_binit T.base_ (by rfl) (pa_cons (pv 0) (pa_cons pe_str pa_nil)))) (pss_one (ps_ost (pv 0) (pv 1))), init_reads (B := A.c_TieError) T.o_NoText T.nf_NoText h⟩
/-- the first of ws that is no way -/
def FirstBad (N : Net) (ws : List (Int × Int)) (i : Nat) : Prop := ∃ w, ws[i]? = some w ∧ ¬ isWay N w.1 w.2 ∧ ∀ j v, j < i → ws[j]? = some v → isWay N v.1 v.2
theorem no_bad {N : Net} {ws : List (Int × Int)} {i : Nat} (h : ∀ w ∈ ws, isWay N w.1 w.2) : ¬ FirstBad N ws i := fun ⟨w, h1, h2, _⟩ => h2 (h w (List.mem_of_getElem? h1))
theorem bad_one {N : Net} {ws : List (Int × Int)} {i j : Nat} (h1 : FirstBad N ws i) (h2 : FirstBad N ws j) : i = j := by
  obtain ⟨w1, x1, x2, x3⟩ := h1
  obtain ⟨w2, y1, y2, y3⟩ := h2
  by_cases c1 : i < j
  · exact absurd (y3 i w1 c1 x1) x2
  · by_cases c2 : j < i
    · exact absurd (x3 j w2 c2 y1) y2
    · omega
theorem bad_mid {N : Net} {ws vs : List (Int × Int)} {b : Int × Int} (h : ∀ w ∈ ws, isWay N w.1 w.2) (hb : ¬ isWay N b.1 b.2) : FirstBad N (ws ++ [b] ++ vs) ws.length := by
  refine ⟨b, by simp, hb, fun j v hj hv => ?_⟩
  rw [List.append_assoc, List.getElem?_append_left hj] at hv
  exact h v (List.mem_of_getElem? hv)
def pr_must_be_ways (K : PySem.W.Frag) (A : Ad) (v0 v1 : V) (H : Hp) (Q : VK) (E : XK) : Prop := ∃ (N : Net) (ws : List (Int × Int)), Dp K H v0 N.d ∧ Dp K H v1 (dPairs ws) ∧ ws.length ≤ 10000 ∧ ((∀ w ∈ ws, isWay N w.1 w.2) → Q .non H) ∧
  (∀ i, FirstBad N ws i → ∀ d, H d = none → E (.ref A.c_NoWay) (some d) (upd H d (.xd [(Str.ofString "at", .int i)])))
def t_must_be_ways (K : PySem.W.Frag) (A : Ad) (E : XK) : TS :=
  (tFor (iRng1 (tCons (tCB (rLenX K) (tCons (tVar 1) tNil)) tNil)) (gName 2)
      (tIfS (tNot (tB (tCall (sp_is_way K) [] E0 (tCons (tVar 0) (tCons (tOp (rIxL K) (tVar 1) (tVar 2)) tNil))))) (tRaiseO A.c_NoWay (spInit A.c_NoWay (Str.ofString "at")) (tCons (tVar 2) tNil) E) tNext))
theorem pure_must_be_ways {v0 v1 : V} {H : Hp} {Q : VK} {E : XK} (h : pr_must_be_ways K A v0 v1 H Q E) : t_must_be_ways K A E ⟨fun _ H' => Q .non H', Q, fun _ _ => False, fun _ _ => False⟩ [some v0, some v1, none] H := by
  obtain ⟨N, ws, hd, hw, hz, q, qx⟩ := h
  obtain ⟨b, xs, rfl, hb, hxs⟩ := dp_list hw
  have hl := dpa_len hxs
  rw [List.length_map] at hl
  unfold t_must_be_ways
  wtm_at "s"
  rw [hl]
  refine forR (fun i σ' H' => H' = H ∧ (∃ k, σ' = [some v0, some (.ref b), k]) ∧ ∀ (j : Nat) v, j < i → ws[j]? = some v → isWay N v.1 v.2) ⟨rfl, ⟨none, rfl⟩, fun j v hj => absurd hj (by omega)⟩ ?_ (fun σ' H' ⟨e, _, a⟩ => e ▸ q (fun w hw => by
    obtain ⟨j, hj, e⟩ := List.getElem_of_mem hw
    exact a j w (by simpa using hj) (by rw [List.getElem?_eq_getElem hj, e])))
  rintro i σ' H' hi ⟨rfl, ⟨k, rfl⟩, al⟩
  have hi' : i < xs.length := by omega
  obtain ⟨x, hx⟩ : ∃ x, xs[i]? = some x := ⟨xs[i], List.getElem?_eq_getElem hi'⟩
  obtain ⟨d, hd1, hd2⟩ := dpa_get hxs hx
  rw [List.getElem?_map] at hd1
  obtain ⟨w, hw1, rfl⟩ := Option.map_eq_some_iff.mp hd1
  wtm_at "s"
  refine k_ixL hb (by rw [Int.zero_add]; exact atI_nat hx) ?_
  wtm_at "s"
  refine ⟨_, _, rfl, N, w.1, w.2, hd, hd2, ?_⟩
  wtm_at "s"
  refine k_itn (fun c => ?_) (fun c => ?_)
  · refine k_raiseO (f := Str.ofString "at") (v := .int (0 + (i : Nat))) (fun R h => ?_) (fun d nd => ?_)
    · wtm_at "s"; exact h
    · rw [Int.zero_add]; exact qx i ⟨w, hw1, c, fun j v hj => al j v hj⟩ d nd
  · wtm_at "s"
    refine ⟨rfl, ⟨_, rfl⟩, fun j v hj hv => ?_⟩
    by_cases e : j = i
    · subst e; rw [hw1] at hv; cases hv; exact c
    · exact al j v (by omega) hv
abbrev sp_must_be_ways (K : PySem.W.Frag) (A : Ad) : Sp := fun vs H Q E => ∃ v0 v1, vs = [v0, v1] ∧ pr_must_be_ways K A v0 v1 H Q E
theorem ok_must_be_ways (T : Txt K mg A) : FnOk P w K mg base (L2.CX P w) 3 A.a_must_be_ways A.d_must_be_ways ["net", "ways"] (sp_must_be_ways K A) := by
  refine T.F_must_be_ways.okX sc_must_be_ways (fun vs H Q E h => by obtain ⟨v0, v1, rfl, _⟩ := h; rfl) (fun cdv A0 outer s H vs Q E hr h => ?_)
  obtain ⟨v0, v1, rfl, h⟩ := h
  exact ⟨t_must_be_ways K A E, (pss_one (ps_for (passes_of rfl) rfl (pi_range1 (by rfl) T.z_range (pa_cons (pe_callB q_len (by rfl) T.z_len (by decide +kernel) (pa_cons (pv 1) pa_nil)) pa_nil)) (pg_name (i := 2) sc_must_be_ways.nd rfl (Or.inl rfl))
      (pss_one (ps_if (pt_not (pt_val (pe_call (ok_is_way T) (hr.mono (by decide)) (by rfl) T.g_is_way T.F_is_way.kp T.b_is_way .nil pass0 (pa_cons (pv 0) (pa_cons (pe_ix ix_list (pv 1) (pv 2) (fun _ _ => rfl)) pa_nil))))) (pss_one (ps_raise rfl (takes_of rfl rfl rfl rfl) (pmk_oex T.o_NoWay T.in_NoWay T.ti_NoWay (ok_init_NoWay T) (hr.mono (by decide)) T.bi_NoWay .nil pass0 (by rfl) T.k_NoWay (pa_cons (pv 2) pa_nil)))) pss_nil)))), pure_must_be_ways h⟩
instance (N : Net) (a b t : Int) : Decidable (OnTie N a b t) := by
  cases N <;> unfold OnTie <;> infer_instance
def Net.ties : Net → Nat
  | .line n => (n - 1).toNat
  | .ring n => n.toNat
  | .tree ps => ps.length
/-- how many of the ways lie on a tie -/
def cnt (N : Net) (ws : List (Int × Int)) (t : Int) : Nat := (ws.filter fun w => decide (OnTie N w.1 w.2 t)).length
def loadsOf (N : Net) (ws : List (Int × Int)) : List Int := (List.range N.ties).map fun t => (cnt N ws (t : Nat) : Int)
theorem on_range {N : Net} (ok : N.ok) {a b t : Int} (hw : isWay N a b) (h : OnTie N a b t) : 0 ≤ t ∧ t < N.ties := by
  cases N with
  | line n =>
    obtain ⟨h1, h2⟩ := h
    obtain ⟨w1, w2, w3, w4, w5⟩ := hw
    have w4' : a < n := w4
    have w5' : b < n := w5
    show 0 ≤ t ∧ t < ((n - 1).toNat : Int)
    omega
  | ring n =>
    obtain ⟨h1, h2, _⟩ := h
    have : 3 ≤ n := ok.1
    show 0 ≤ t ∧ t < (n.toNat : Int)
    omega
  | tree ps =>
    obtain ⟨h1, h2, _⟩ := h
    exact ⟨h1, h2⟩
theorem ties_le {N : Net} (ok : N.ok) : N.ties ≤ 60 ∧ 1 ≤ N.ties := by
  cases N with
  | line n => obtain ⟨h1, h2⟩ := ok; show (n - 1).toNat ≤ 60 ∧ 1 ≤ (n - 1).toNat; omega
  | ring n => obtain ⟨h1, h2⟩ := ok; show n.toNat ≤ 60 ∧ 1 ≤ n.toNat; omega
  | tree ps => obtain ⟨h1, h2, _⟩ := ok; show ps.length ≤ 60 ∧ 1 ≤ ps.length; omega
theorem cnt_take {N : Net} {ws : List (Int × Int)} {i : Nat} {w : Int × Int} (h : ws[i]? = some w) (t : Int) : cnt N (ws.take (i + 1)) t = cnt N (ws.take i) t + if OnTie N w.1 w.2 t then 1 else 0 := by
  unfold cnt
  rw [List.take_add_one, h, List.filter_append, List.length_append]
  by_cases c : OnTie N w.1 w.2 t <;> simp [c]
/-- the numbers below n that P takes -/
def keepI (n : Nat) (P : Nat → Bool) : List Int := ((List.range n).filter P).map fun (i : Nat) => (i : Int)
theorem keepI_fm (n : Nat) (P : Nat → Bool) : (List.range n).filterMap (fun i => if P i = true then some (V.int (0 + (i : Nat))) else none) = List.map V.int (keepI n P) := by
  unfold keepI
  rw [List.map_map]
  induction (List.range n) with
  | nil => rfl
  | cons x r ih =>
    by_cases c : P x = true
    · rw [List.filterMap_cons, if_pos c, List.filter_cons, if_pos c]
      simp only [List.map_cons]
      rw [ih]
      simp
    · rw [List.filterMap_cons, if_neg c, List.filter_cons, if_neg c]
      exact ih
theorem keepI_srt (n : Nat) (P : Nat → Bool) : (keepI n P).Pairwise (· < ·) := by
  unfold keepI
  exact List.pairwise_map.mpr ((List.pairwise_lt_range.filter P).imp fun h => by omega)
theorem keepI_mem {n : Nat} {P : Nat → Bool} {t : Int} : t ∈ keepI n P ↔ 0 ≤ t ∧ t < n ∧ P t.toNat = true := by
  unfold keepI
  rw [List.mem_map]
  constructor
  · rintro ⟨i, hi, rfl⟩
    obtain ⟨h1, h2⟩ := List.mem_filter.mp hi
    have := List.mem_range.mp h1
    exact ⟨by omega, by omega, by rw [Int.toNat_natCast]; exact h2⟩
  · rintro ⟨h0, h1, h2⟩
    exact ⟨t.toNat, List.mem_filter.mpr ⟨List.mem_range.mpr (by omega), h2⟩, by omega⟩
theorem nodup_below : ∀ (n : Nat) (l : List Int), l.Nodup → (∀ x ∈ l, 0 ≤ x ∧ x < n) → l.length ≤ n
  | 0, l, _, h => by
    cases l with
    | nil => simp
    | cons x r => have := h x List.mem_cons_self; omega
  | n + 1, l, nd, h => by
    have e : l.length = l.countP (fun x => decide (x = (n : Int))) + l.countP (fun x => !decide (x = (n : Int))) := by
      have := List.length_eq_countP_add_countP (fun x : Int => decide (x = (n : Int))) (l := l)
      rw [this]
      congr 1
      exact List.countP_congr fun x _ => by simp
    have c1 : l.countP (fun x => decide (x = (n : Int))) ≤ 1 := by
      have := List.nodup_iff_count.mp nd (n : Int)
      rw [List.count_eq_countP] at this
      have e2 : l.countP (fun x => decide (x = (n : Int))) = l.countP (· == (n : Int)) := List.countP_congr fun x _ => by simp
      rw [e2]; exact this
    have c2 := nodup_below n (l.filter fun x => !decide (x = (n : Int))) (nd.filter _) (fun x hx => by
      obtain ⟨h1, h2⟩ := List.mem_filter.mp hx
      have := h x h1
      simp at h2
      omega)
    rw [← List.countP_eq_length_filter] at c2
    omega
theorem firstMet_nd (val : Nat → Int) : ∀ i, (PyProof.Rows.firstMet val i).Nodup ∧ ∀ x ∈ PyProof.Rows.firstMet val i, ∃ j, j < i ∧ x = val j
  | 0 => ⟨List.nodup_nil, fun x z => by cases z⟩
  | i + 1 => by
    obtain ⟨h1, h2⟩ := firstMet_nd val i
    rw [PyProof.Rows.firstMet_succ]
    unfold PyProof.Rows.step_dedup
    split
    · exact ⟨h1, fun x hx => by obtain ⟨j, hj, e⟩ := h2 x hx; exact ⟨j, by omega, e⟩⟩
    · rename_i c
      refine ⟨?_, fun x hx => ?_⟩
      · rw [List.nodup_append]
        refine ⟨h1, by simp, fun x hx y hy e => ?_⟩
        rw [List.mem_singleton.mp hy] at e
        refine c (List.any_eq_true.mpr ⟨x, hx, by simp [e]⟩)
      · rcases List.mem_append.mp hx with hx | hx
        · obtain ⟨j, hj, e⟩ := h2 x hx; exact ⟨j, by omega, e⟩
        · exact ⟨i, by omega, List.mem_singleton.mp hx⟩
theorem unl_below {hs : List Int} {n : Nat} (h : ∀ x ∈ hs, 0 ≤ x ∧ x < n) : unl hs ≤ n := by
  obtain ⟨h1, h2⟩ := firstMet_nd (fun i => hs.getD i 0) hs.length
  refine nodup_below n _ h1 fun x hx => ?_
  obtain ⟨j, hj, rfl⟩ := h2 x hx
  refine h _ ?_
  show hs.getD j 0 ∈ hs
  rw [List.getD_eq_getElem?_getD, List.getElem?_eq_getElem hj]
  exact List.getElem_mem hj


theorem ss_ext : ∀ {xs ys : List Int}, xs.Pairwise (· < ·) → ys.Pairwise (· < ·) → (∀ t, t ∈ xs ↔ t ∈ ys) → xs = ys
  | [], [], _, _, _ => rfl
  | [], y :: ys, _, _, h => by have := (h y).mpr List.mem_cons_self; cases this
  | x :: xs, [], _, _, h => by have := (h x).mp List.mem_cons_self; cases this
  | x :: xs, y :: ys, h1, h2, h => by
    obtain ⟨a1, a2⟩ := List.pairwise_cons.mp h1
    obtain ⟨b1, b2⟩ := List.pairwise_cons.mp h2
    have e : x = y := by
      rcases List.mem_cons.mp ((h x).mp List.mem_cons_self) with e | e
      · exact e
      · rcases List.mem_cons.mp ((h y).mpr List.mem_cons_self) with e' | e'
        · exact e'.symm
        · have := b1 _ e; have := a1 _ e'; omega
    subst e
    congr 1
    refine ss_ext a2 b2 fun t => ?_
    constructor
    · intro ht
      rcases List.mem_cons.mp ((h t).mp (List.mem_cons_of_mem _ ht)) with e | e
      · have := a1 _ ht; omega
      · exact e
    · intro ht
      rcases List.mem_cons.mp ((h t).mpr (List.mem_cons_of_mem _ ht)) with e | e
      · have := b1 _ ht; omega
      · exact e
/-- the ties at a place -/
def hereB (ps : List Int) (p : Int) (k : Nat) : Bool := decide ((k : Int) + 1 = p) || decide (ps.getD k 0 = p)
def hereOf (ps : List Int) (p : Int) : List Int := ((List.range ps.length).filter (hereB ps p)).map fun k : Nat => (k : Int)
theorem here_fm (ps : List Int) (p : Int) : (List.range ps.length).filterMap (fun i => if hereB ps p i = true then some (V.int (0 + (i : Nat))) else none) = (hereOf ps p).map V.int := by
  unfold hereOf
  rw [List.map_map]
  induction (List.range ps.length) with
  | nil => rfl
  | cons x r ih =>
    by_cases c : hereB ps p x = true
    · rw [List.filterMap_cons, if_pos c, List.filter_cons, if_pos c]
      simp only [List.map_cons]
      rw [ih]
      simp
    · rw [List.filterMap_cons, if_neg c, List.filter_cons, if_neg c]
      exact ih
theorem here_srt (ps : List Int) (p : Int) : (hereOf ps p).Pairwise (· < ·) := by
  unfold hereOf
  exact List.pairwise_map.mpr ((List.pairwise_lt_range.filter _).imp fun h => by omega)
theorem here_len (ps : List Int) (p : Int) : (hereOf ps p).length ≤ ps.length := by
  unfold hereOf
  rw [List.length_map]
  exact Nat.le_trans (List.length_filter_le _ _) (by simp)
def pr_ties_at (K : PySem.W.Frag) (v0 v1 : V) (H : Hp) (Q : VK) (_ : XK) : Prop := ∃ (ps : List Int) (p : Int), v1 = .int p ∧ Dp K H v0 (Net.tree ps).d ∧ ps.length ≤ 1000 ∧ ∀ a H', H a = none → Same H H' → H' a = some (.lst ((hereOf ps p).map V.int)) → Q (.ref a) H'
def t_ties_at (K : PySem.W.Frag) : TS :=
  (tSeq (tAsg (tOp (rIxT K) (tVar 0) (tC (.int 1))) (gName 2))
    (tRet (tLc (iRng1 (tCons (tCB (rLenX K) (tCons (tVar 2) tNil)) tNil)) (gName 3) (tOr (tTest (tOp rEq (tOp xAdd (tVar 3) (tC (.int 1))) (tVar 1))) (tTest (tOp rEq (tOp (rIxL K) (tVar 2) (tVar 3)) (tVar 1)))) (tVar 3) [3])))
theorem pure_ties_at {v0 v1 : V} {H : Hp} {Q : VK} {E : XK} (h : pr_ties_at K v0 v1 H Q E) : t_ties_at K ⟨fun _ H' => Q .non H', Q, fun _ _ => False, fun _ _ => False⟩ [some v0, some v1, none, none] H := by
  obtain ⟨ps, p, rfl, hd, hz, q⟩ := h
  obtain ⟨a, y, rfl, hs, hy⟩ := dp_net hd
  obtain ⟨b, rfl, hb⟩ := dp_ints hy
  unfold t_ties_at
  wtm_at "s"
  rw [Int.toNat_natCast]
  refine lc_pureR (by omega) (fun i => if hereB ps p i = true then some (V.int (0 + (i : Nat))) else none) ?_ (fun D H' nD sm hD => ?_)
  · intro i H' hi sm R R0 h1 h2
    wtm_at "s"
    have e0 : (0 + (i : Int)).toNat = i := by omega
    refine k_it (fun c => ?_) (fun c => ?_)
    · wtm_at "s"
      exact h1 _ (by rw [if_pos]; unfold hereB; rw [decide_eq_true (show (i : Int) + 1 = p by omega)]; rfl)
    · wtm_at "s"
      refine k_ixI (by wtm_at "sq") (by omega) (by omega) ?_
      rw [e0]
      wtm_at "s"
      refine k_it (fun c2 => ?_) (fun c2 => ?_)
      · wtm_at "s"
        exact h1 _ (by rw [if_pos]; unfold hereB; rw [decide_eq_true c2, Bool.or_true])
      · exact h2 (by rw [if_neg]; unfold hereB; rw [decide_eq_false c2, decide_eq_false (show ¬ (i : Int) + 1 = p by omega)]; decide)
  · rw [here_fm] at hD
    exact q D H' nD sm hD
abbrev sp_ties_at (K : PySem.W.Frag) : Sp := fun vs H Q E => ∃ v0 v1, vs = [v0, v1] ∧ pr_ties_at K v0 v1 H Q E
theorem ok_ties_at (T : Txt K mg A) : FnOk P w K mg base CX0 1 A.a_ties_at A.d_ties_at ["net", "place"] (sp_ties_at K) := by
  refine T.F_ties_at.ok sc_ties_at (fun vs H Q E h => by obtain ⟨v0, v1, rfl, _⟩ := h; rfl) (fun cdv A0 outer s H vs Q E hr h => ?_)
  obtain ⟨v0, v1, rfl, h⟩ := h
  exact ⟨t_ties_at K, (pss_cons (ps_set (i := 2) sc_ties_at.nd rfl (Or.inr rfl) (pe_ix ix_tup (pv 0) pe_int (fun _ _ => rfl)))
      (pss_one (ps_ret (pe_lc (own := [("k", 3)]) (by rfl) sc_ties_at.nd (pi_range1 (by rfl) T.z_range (pa_cons (pe_callB q_len (by rfl) T.z_len (by decide +kernel) (pa_cons (pv 2) pa_nil)) pa_nil)) (blkOk_by (own := [("k", 3)]) (N := ["net", "place", "parents", "k"]) (sc := defScope s_ties_at) (by decide +kernel)) (fun _ _ _ _ _ => (pg_name (i := 3) sc_ties_at.nd rfl (Or.inl rfl))) (fun _ _ _ _ _ => (pts_one (PW.pt (pw_or (pt_cmpR op_eq (pe_op op_add (pv 3) pe_int) (pv 1) (nomark _)) (pw_or1 (pt_cmpR op_eq (pe_ix ix_list (pv 2) (pv 3) (fun _ _ => rfl)) (pv 1) (nomark _))))))) (fun _ _ _ _ _ => (pv 3)))))), pure_ties_at h⟩
/-- the numbers, among hs, of those of ts that are there -/
def someOf (hs ts : List Int) : List Int := (ts.filter fun t => decide (t ∈ hs)).map fun t => ((hs.idxOf t : Nat) : Int)
theorem k_indexI {K : PySem.W.Frag} {H : Hp} {Q : VK} {p : Addr} {ns : List Int} {x : Int} (hs : SqL K H p (ns.map V.int)) (hx : x ∈ ns) (h : Q (.int (ns.idxOf x : Nat)) H) : rIndex K (.ref p) [.int x] H Q := by
  have hl : ns.idxOf x < ns.length := List.idxOf_lt_length_of_mem hx
  have hg : ns[ns.idxOf x]? = some x := by rw [List.getElem?_eq_getElem hl, List.getElem_idxOf hl]
  refine k_indexV (z := .int x) hs rfl (flat_ints ns) (by rw [List.getElem?_map, hg]; rfl) (by show (x == x) = true; simp) (fun m z' hm hz => ?_) h
  rw [List.getElem?_map] at hz
  obtain ⟨y, hy, rfl⟩ := Option.map_eq_some_iff.mp hz
  show (y == x) = false
  have hml : m < ns.length := by omega
  have e : y = ns[m] := by rw [List.getElem?_eq_getElem hml] at hy; exact (Option.some.inj hy).symm
  rw [e]
  have := List.not_of_lt_findIdx (p := (· == x)) (xs := ns) hm
  simpa using this
theorem some_srt {hs ts : List Int} (h1 : hs.Pairwise (· < ·)) (h2 : ts.Pairwise (· < ·)) : (someOf hs ts).Pairwise (· < ·) := by
  unfold someOf
  refine List.pairwise_map.mpr ((h2.filter _).imp_of_mem fun {x y} hx hy hxy => ?_)
  have mx : x ∈ hs := by simpa using (List.mem_filter.mp hx).2
  have my : y ∈ hs := by simpa using (List.mem_filter.mp hy).2
  have lx := List.idxOf_lt_length_of_mem mx
  have ly := List.idxOf_lt_length_of_mem my
  have gx : hs[hs.idxOf x] = x := List.getElem_idxOf lx
  have gy : hs[hs.idxOf y] = y := List.getElem_idxOf ly
  rcases Nat.lt_trichotomy (hs.idxOf x) (hs.idxOf y) with c | c | c
  · omega
  · have : x = y := by rw [← gx, ← gy]; simp only [c]
    omega
  · have := List.pairwise_iff_getElem.mp h1 _ _ ly lx c
    rw [gx, gy] at this
    omega
theorem some_fm (hs ts : List Int) : ts.filterMap (fun t => if decide (t ∈ hs) = true then some (V.int (hs.idxOf t : Nat)) else none) = (someOf hs ts).map V.int := by
  unfold someOf
  rw [List.map_map]
  induction ts with
  | nil => rfl
  | cons x r ih =>
    by_cases c : decide (x ∈ hs) = true
    · rw [List.filterMap_cons, if_pos c, List.filter_cons, if_pos c]
      simp only [List.map_cons]
      rw [ih]
      rfl
    · rw [List.filterMap_cons, if_neg c, List.filter_cons, if_neg c]
      exact ih
/-- first and last of a rising list -/
def ends (ns : List Int) : Int × Int := (ns.headD 0, ns.getLastD 0)
theorem ends_min {ns : List Int} {m : Int} (h : ns.Pairwise (· < ·)) (hm : m ∈ ns) (hl : ∀ y ∈ ns, m ≤ y) : m = (ends ns).1 := by
  cases ns with
  | nil => cases hm
  | cons x r =>
    show m = x
    have := hl x List.mem_cons_self
    rcases List.mem_cons.mp hm with e | e
    · exact e
    · have := (List.pairwise_cons.mp h).1 m e; omega
theorem ends_max : ∀ {ns : List Int} {m : Int}, ns.Pairwise (· < ·) → m ∈ ns → (∀ y ∈ ns, y ≤ m) → m = (ends ns).2
  | [], _, _, hm, _ => by cases hm
  | [x], m, _, hm, _ => by
    show m = x
    simpa using hm
  | x :: y :: r, m, h, hm, hl => by
    obtain ⟨h1, h2⟩ := List.pairwise_cons.mp h
    have hy := hl y (by simp)
    have hx := h1 y List.mem_cons_self
    have hm' : m ∈ y :: r := by
      rcases List.mem_cons.mp hm with e | e
      · omega
      · exact e
    have := ends_max h2 hm' fun z hz => hl z (List.mem_cons_of_mem _ hz)
    rw [this]
    rfl
/-- the ties of a way on a tree, rising -/
def treeTies (ps : List Int) (w : Int × Int) : List Int := ((List.range ps.length).filter fun t => decide (below ps (t + 1) w.1.toNat ≠ below ps (t + 1) w.2.toNat)).map fun t : Nat => (t : Int)
theorem treeTies_srt (ps : List Int) (w : Int × Int) : (treeTies ps w).Pairwise (· < ·) := by
  unfold treeTies
  exact List.pairwise_map.mpr ((List.pairwise_lt_range.filter _).imp fun h => by omega)
theorem treeTies_mem {ps : List Int} {w : Int × Int} {t : Int} : t ∈ treeTies ps w ↔ OnTie (.tree ps) w.1 w.2 t := by
  unfold treeTies
  rw [List.mem_map]
  show _ ↔ 0 ≤ t ∧ t < ps.length ∧ below ps (t.toNat + 1) w.1.toNat ≠ below ps (t.toNat + 1) w.2.toNat
  constructor
  · rintro ⟨i, hi, rfl⟩
    obtain ⟨h1, h2⟩ := List.mem_filter.mp hi
    have := List.mem_range.mp h1
    exact ⟨by omega, by omega, by rw [Int.toNat_natCast]; exact of_decide_eq_true h2⟩
  · rintro ⟨h0, h1, h2⟩
    exact ⟨t.toNat, List.mem_filter.mpr ⟨List.mem_range.mpr (by omega), decide_eq_true h2⟩, by omega⟩
/-- what crossing_of tells of the first i ways -/
def wayAt (ps : List Int) (p : Int) (w : Int × Int) : List Int := someOf (hereOf ps p) (treeTies ps w)
def crPairs (ps : List Int) (p : Int) (ws : List (Int × Int)) : List (Int × Int) := ws.filterMap fun w => if wayAt ps p w = [] then none else some (ends (wayAt ps p w))
def crNums (ps : List Int) (p : Int) (ws : List (Int × Int)) (i : Nat) : List Int := ((List.range i).filter fun k => match ws[k]? with | some w => !decide (wayAt ps p w = []) | none => false).map fun k : Nat => (k : Int)
theorem crNums_succ {ps : List Int} {p : Int} {ws : List (Int × Int)} {i : Nat} {w : Int × Int} (h : ws[i]? = some w) : crNums ps p ws (i + 1) = crNums ps p ws i ++ if wayAt ps p w = [] then [] else [(i : Int)] := by
  unfold crNums
  rw [List.range_succ, List.filter_append, List.map_append]
  congr 1
  by_cases c : wayAt ps p w = [] <;> simp [h, c]
theorem crPairs_succ {ps : List Int} {p : Int} {ws : List (Int × Int)} {i : Nat} {w : Int × Int} (h : ws[i]? = some w) : crPairs ps p (ws.take (i + 1)) = crPairs ps p (ws.take i) ++ if wayAt ps p w = [] then [] else [ends (wayAt ps p w)] := by
  unfold crPairs
  rw [take_filterMap h]
  by_cases c : wayAt ps p w = []
  · rw [if_pos c, if_pos c]; rfl
  · rw [if_neg c, if_neg c]; rfl
/-- a crossing with its ways' numbers, all of it new -/
structure CrNew (K : PySem.W.Frag) (H H' : Hp) (p : Addr) (n : Int) (prs : List (Int × Int)) (nms : List Int) : Prop where
  same : Same H H'
  ex : ∃ q pl nl ys, H p = none ∧ H q = none ∧ H pl = none ∧ H nl = none ∧ pl ≠ nl ∧ H' p = some (.tup [.ref q, .ref nl]) ∧ H' q = some (.tup [.int n, .ref pl]) ∧ H' pl = some (.lst ys) ∧ (∀ S : List Addr, (∀ b ∈ S, H b ≠ none) → DpAll K (hid (pl :: nl :: S) H') ys (prs.map dPair)) ∧ H' nl = some (.lst (nms.map V.int))
abbrev dCrN (n : Int) (prs : List (Int × Int)) (nms : List Int) : PyData := .tuple [.tuple [.int n, dPairs prs], dInts nms]
theorem CrNew.dp {K : PySem.W.Frag} {H H' : Hp} {p : Addr} {n : Int} {prs : List (Int × Int)} {nms : List Int} (h : CrNew K H H' p n prs nms) : Dp K H' (.ref p) (dCrN n prs nms) := by
  obtain ⟨q, pl, nl, ys, _, _, _, _, _, h1, h2, h3, h4, h5⟩ := h.ex
  exact .tup (stp h1) (.cons (.tup (stp h2) (.cons (.int _) (.cons (.lst (sl h3) (dpa_same (hid_same _ _) (h4 [] (by simp)))) .nil))) (.cons (dp_of_ints (sl h5)) .nil))
/-- what is told lies in new places alone -/
theorem CrNew.dph {K : PySem.W.Frag} {H H' : Hp} {p : Addr} {n : Int} {prs : List (Int × Int)} {nms : List Int} (h : CrNew K H H' p n prs nms) {S : List Addr} (hS : ∀ b ∈ S, H b ≠ none) : Dp K (hid S H') (.ref p) (dCrN n prs nms) := by
  obtain ⟨q, pl, nl, ys, n1, n2, n3, n4, _, h1, h2, h3, h4, h5⟩ := h.ex
  have o : ∀ {b : Addr} {x : HO}, H b = none → H' b = some x → hid S H' b = some x := fun nb e => by rw [hid_ne fun z => hS _ z nb]; exact e
  exact .tup (stp (o n1 h1)) (.cons (.tup (stp (o n2 h2)) (.cons (.int _) (.cons (.lst (sl (o n3 h3)) (dpa_same (hid_sub fun a ha => by simp [ha]) (h4 S hS))) .nil))) (.cons (dp_of_ints (sl (o n4 h5))) .nil))
def pr_crossing_of (K : PySem.W.Frag) (v0 v1 v2 : V) (H : Hp) (Q : VK) (_ : XK) : Prop := ∃ (ps : List Int) (ws : List (Int × Int)) (x : Int), v2 = .int x ∧ Dp K H v0 (Net.tree ps).d ∧ TreeOk ps ∧ Dp K H v1 (dPairs ws) ∧ ws.length ≤ 1000 ∧ (∀ w ∈ ws, isWay (.tree ps) w.1 w.2) ∧
  ∀ p H', CrNew K H H' p (hereOf ps x).length (crPairs ps x ws) (crNums ps x ws ws.length) → Q (.ref p) H'
def t_crossing_of (K : PySem.W.Frag) : TS :=
  (tSeq (tAsg (tCall (sp_ties_at K) [] E0 (tCons (tVar 0) (tCons (tVar 2) tNil))) (gName 3))
    (tSeq (tAsg (tLst tNil) (gName 4))
    (tSeq (tAsg (tLst tNil) (gName 5))
    (tSeq (tFor (iRng1 (tCons (tCB (rLenX K) (tCons (tVar 1) tNil)) tNil)) (gName 6)
      (tSeq (tAsg (tLc (iList K (tCall (sp_ties_on K) [] E0 (tCons (tVar 0) (tCons (tOp (rIxL K) (tVar 1) (tVar 6)) tNil)))) (gName 8) (tTest (tOp (rIn K false) (tVar 8) (tVar 3))) (tBM K "list" (rIndex K) (tVar 3) (tCons (tVar 8) tNil)) [8]) (gName 7))
    (tIfS (tTest (tOp xGt (tCB (rLenX K) (tCons (tVar 7) tNil)) (tC (.int 0)))) (tSeq (tDrop (tBM K "list" rAppend (tVar 4) (tCons (tTup (tCons (tCB (rMin K) (tCons (tVar 7) tNil)) (tCons (tCB (rMax K) (tCons (tVar 7) tNil)) tNil))) tNil)))
    (tDrop (tBM K "list" rAppend (tVar 5) (tCons (tVar 6) tNil)))) tNext)))
    (tRet (tTup (tCons (tTup (tCons (tCB (rLenX K) (tCons (tVar 3) tNil)) (tCons (tVar 4) tNil))) (tCons (tVar 5) tNil))))))))
theorem pure_crossing_of {v0 v1 v2 : V} {H : Hp} {Q : VK} {E : XK} (h : pr_crossing_of K v0 v1 v2 H Q E) : t_crossing_of K ⟨fun _ H' => Q .non H', Q, fun _ _ => False, fun _ _ => False⟩ [some v0, some v1, some v2, none, none, none, none, none, none] H := by
  obtain ⟨ps, ws, x, rfl, hd, ok, hw, hz, hok, q⟩ := h
  obtain ⟨b, xs, rfl, hb, hxs⟩ := dp_list hw
  have hl := dpa_len hxs
  rw [List.length_map] at hl
  have hpl := ok.2.1
  unfold t_crossing_of
  wtm_at "s"
  refine ⟨_, _, rfl, ps, x, rfl, hd, by omega, fun he H1 nhe s1 ehe => ?_⟩
  wtm_at "s"
  refine kL (by simp) (fun pl H2 npl s2 epl => ?_)
  wtm_at "s"
  refine kL (by simp) (fun nl H3 nnl s3 enl => ?_)
  have npl0 : H pl = none := s1.free npl
  have nnl0 : H nl = none := (s1.trans s2).free nnl
  have pn : pl ≠ nl := fun e => by rw [← e, epl] at nnl; cases nnl
  have lh := here_len ps x
  wtm_at "s"
  rw [hl]
  refine forR (fun i σ' H' => Same H1 H' ∧ ∃ ys k6 k7, σ' = [some v0, some (.ref b), some (.int x), some (.ref he), some (.ref pl), some (.ref nl), k6, k7, none] ∧ H' pl = some (.lst ys) ∧ ys.length ≤ i ∧ (∀ S : List Addr, (∀ b ∈ S, H b ≠ none) → DpAll K (hid (pl :: nl :: S) H') ys ((crPairs ps x (ws.take i)).map dPair)) ∧ H' nl = some (.lst ((crNums ps x ws i).map V.int)) ∧ (crNums ps x ws i).length ≤ i)
    ⟨s2.trans s3, [], _, _, rfl, s3 _ _ epl, Nat.le_refl _, fun _ _ => .nil, enl, Nat.le_refl _⟩ ?_ ?_
  · rintro i σ' H4 hi ⟨s4, ys, k6, k7, rfl, hp4, ly, dy, hn4, ln⟩
    have hi' : i < xs.length := by omega
    obtain ⟨v, hx⟩ : ∃ v, xs[i]? = some v := ⟨xs[i], List.getElem?_eq_getElem hi'⟩
    obtain ⟨d, hd1, hd2⟩ := dpa_get hxs hx
    rw [List.getElem?_map] at hd1
    obtain ⟨w, hw1, rfl⟩ := Option.map_eq_some_iff.mp hd1
    have wok := hok w (List.mem_of_getElem? hw1)
    have tp := crPairs_succ (ps := ps) (p := x) hw1
    have tn := crNums_succ (ps := ps) (p := x) hw1
    wtm_at "s"
    refine k_ixL (by wtm_at "sq") (by rw [Int.zero_add]; exact atI_nat hx) ?_
    wtm_at "s"
    refine ⟨_, _, rfl, .tree ps, w.1, w.2, by wtm_at "dp", by wtm_at "dp", ok, wok, fun tl ts H5 ntl s5 etl tt => ?_⟩
    have ets : ts = treeTies ps w := ss_ext tt.srt (treeTies_srt ps w) fun t => (tt.mem t).trans treeTies_mem.symm
    subst ets
    have lts : (treeTies ps w).length < 120 := tt.far
    refine lc_pure (sl etl) (treeTies ps w) (by simp) (by omega) (fun t => if decide (t ∈ hereOf ps x) = true then some (V.int ((hereOf ps x).idxOf t : Nat)) else none) ?_ (fun D H6 nD s6 eD => ?_)
    · intro j z t H' hz ht sm R R0 h1 h2
      rw [List.getElem?_map, ht] at hz
      cases hz
      wtm_at "s"
      refine k_it (fun c => ?_) (fun c => ?_)
      · wtm_at "s"
        refine k_tyL (by wtm_at "sq") ?_
        wtm_at "s"
        refine k_indexI (by wtm_at "sq") c ?_
        exact h1 _ (by rw [if_pos (decide_eq_true c)])
      · exact h2 (by rw [if_neg (by simpa using c)])
    · rw [some_fm] at eD
      have srt := some_srt (here_srt ps x) (treeTies_srt ps w)
      have eD' : H6 D = some (.lst ((wayAt ps x w).map V.int)) := eD
      have srt' : (wayAt ps x w).Pairwise (· < ·) := srt
      have hp6 := (s5.trans s6) _ _ hp4
      have hn6 := (s5.trans s6) _ _ hn4
      have dy6 : ∀ S : List Addr, (∀ b ∈ S, H b ≠ none) → DpAll K (hid (pl :: nl :: S) H6) ys ((crPairs ps x (ws.take i)).map dPair) := fun S hS => dpa_same (hid_mono (s5.trans s6)) (dy S hS)
      have s16 : Same H1 H6 := s4.trans (s5.trans s6)
      clear eD srt
      wtm_at "s"
      generalize wayAt ps x w = so at eD' srt' tp tn ⊢
      refine k_it (fun c => ?_) (fun c => ?_)
      · have sne : so ≠ [] := fun e => by rw [e] at c; simp at c
        rw [if_neg sne] at tp tn
        wtm_at "s"
        refine k_tyL (sl hp6) ?_
        wtm_at "s"
        refine k_min (sl eD') (by omega) (fun m m1 m2 => ?_)
        wtm_at "s"
        refine k_max (sl eD') (by omega) (fun m' m1' m2' => ?_)
        have em : m = (ends so).1 := ends_min srt' m1 m2
        have em' : m' = (ends so).2 := ends_max srt' m1' m2'
        subst em em'
        wtm_at "s"
        refine kT (by simp) (fun t1 H7 nt1 s7 e7 => ?_)
        have hp7 := s7 _ _ hp6
        have hn7 := s7 _ _ hn6
        have t1p : t1 ≠ pl := fun e => by rw [e, hp6] at nt1; cases nt1
        have t1n : t1 ≠ nl := fun e => by rw [e, hn6] at nt1; cases nt1
        wtm_at "s"
        refine k_append hp7 (by omega) ?_
        wtm_at "s"
        have hn8 : upd H7 pl (.lst (ys ++ [.ref t1])) nl = some (.lst ((crNums ps x ws i).map V.int)) := by rw [upd_ne (fun e => pn e.symm)]; exact hn7
        refine k_tyL (sl hn8) ?_
        wtm_at "s"
        refine k_append hn8 (by simp; omega) ?_
        refine ⟨same_mut (same_mut (s16.trans s7) npl) ((s2.free nnl)), ys ++ [.ref t1], _, _, rfl, ?_, by simp; omega, ?_, ?_, by rw [tn]; simp; omega⟩
        · rw [upd_ne pn, upd_same]
        · intro S hS
          rw [hid_upd (by simp), hid_upd (by simp), tp, List.map_append]
          refine dpa_app (dpa_same (hid_mono s7) (dy6 S hS)) (.cons (dp_of_pair (stp ?_)) .nil)
          rw [hid_ne fun z => ?_]
          · exact e7
          · rcases List.mem_cons.mp z with z | z
            · exact t1p z
            · rcases List.mem_cons.mp z with z | z
              · exact t1n z
              · exact hS t1 z ((s1.trans s16).free nt1)
        · rw [upd_same, tn, List.map_append, Int.zero_add]; rfl
      · have se : so = [] := by
          cases so with
          | nil => rfl
          | cons z r => exact absurd (by simp : (0 : Int) < ((z :: r).length : Int)) c
        rw [if_pos se, List.append_nil] at tp tn
        wtm_at "s"
        refine ⟨s16, ys, _, _, rfl, hp6, by omega, fun S hS => by rw [tp]; exact dy6 S hS, by rw [tn]; exact hn6, by rw [tn]; omega⟩
  · rintro σ' H4 ⟨s4, ys, k6, k7, rfl, hp4, ly, dy, hn4, ln⟩
    rw [Int.toNat_natCast] at dy hn4
    rw [List.take_length] at dy
    wtm_at "s"
    refine kT (by simp) (fun cq H5 ncq s5 ecq => ?_)
    wtm_at "s"
    refine kT (by simp) (fun cp H6 ncp s6 ecp => ?_)
    have s16 : Same H1 H4 := s4
    exact q cp H6 ⟨by wtm_at "sm", cq, pl, nl, ys, ((s1.trans s4).trans s5).free ncp, (s1.trans s4).free ncq, npl0, nnl0, pn, ecp, s6 _ _ ecq, (s5.trans s6) _ _ hp4, fun S hS => dpa_same (hid_mono (s5.trans s6)) (dy S hS), (s5.trans s6) _ _ hn4⟩
abbrev sp_crossing_of (K : PySem.W.Frag) : Sp := fun vs H Q E => ∃ v0 v1 v2, vs = [v0, v1, v2] ∧ pr_crossing_of K v0 v1 v2 H Q E
theorem ok_crossing_of (T : Txt K mg A) : FnOk P w K mg base CX0 2 A.a_crossing_of A.d_crossing_of ["net", "ways", "place"] (sp_crossing_of K) := by
  refine T.F_crossing_of.ok sc_crossing_of (fun vs H Q E h => by obtain ⟨v0, v1, v2, rfl, _⟩ := h; rfl) (fun cdv A0 outer s H vs Q E hr h => ?_)
  obtain ⟨v0, v1, v2, rfl, h⟩ := h
  exact ⟨t_crossing_of K, (pss_cons (ps_set (i := 3) sc_crossing_of.nd rfl (Or.inr rfl) (pe_call (ok_ties_at T) (hr.mono (by decide)) (by rfl) T.g_ties_at T.F_ties_at.kp T.b_ties_at .nil pass0 (pa_cons (pv 0) (pa_cons (pv 2) pa_nil))))
      (pss_cons (ps_set (i := 4) sc_crossing_of.nd rfl (Or.inl rfl) (pe_lst pa_nil))
      (pss_cons (ps_set (i := 5) sc_crossing_of.nd rfl (Or.inl rfl) (pe_lst pa_nil))
      (pss_cons (ps_for PassesOwn.never rfl (pi_range1 (by rfl) T.z_range (pa_cons (pe_callB q_len (by rfl) T.z_len (by decide +kernel) (pa_cons (pv 1) pa_nil)) pa_nil)) (pg_name (i := 6) sc_crossing_of.nd rfl (Or.inl rfl))
      (pss_cons (ps_setLc (i := 7) (own := [("tie", 8)]) (by rfl) sc_crossing_of.nd rfl rfl (sw_true rfl rfl rfl (by decide +kernel)) (pi_list (pe_call (ok_ties_on T) (hr.mono (by decide)) (by rfl) T.g_ties_on T.F_ties_on.kp T.b_ties_on .nil pass0 (pa_cons (pv 0) (pa_cons (pe_ix ix_list (pv 1) (pv 6) (fun _ _ => rfl)) pa_nil)))) (blkOk_by (own := [("tie", 8)]) (N := ["net", "ways", "place", "here", "pairs", "numbers", "k", "some", "tie"]) (sc := defScope s_crossing_of) (by decide +kernel)) (fun _ _ _ _ _ => (pg_name (i := 8) sc_crossing_of.nd rfl (Or.inl rfl))) (fun _ _ _ _ _ => (pts_one (pt_cmpR op_in_seq (pv 8) (pv 3) (by rfl)))) (fun _ _ _ _ _ => (pe_bm PySem.F.plainAttrs_list PySem.F.slot_list_index PySem.F.type_list_index mt_index (pv 3) (pa_cons (pv 8) pa_nil))))
      (pss_one (ps_if (pt_cmpR op_gt (pe_callB q_len (by rfl) T.z_len (by decide +kernel) (pa_cons (pv 7) pa_nil)) pe_int (nomark _)) (pss_cons (ps_expr (pe_bm PySem.F.plainAttrs_list PySem.F.slot_list_append PySem.F.type_list_append mt_append (pv 4) (pa_cons (pe_tup (pa_cons (pe_callB (cr_min (by rfl)) (by rfl) T.z_min (by decide +kernel) (pa_cons (pv 7) pa_nil)) (pa_cons (pe_callB (cr_max (by rfl)) (by rfl) T.z_max (by decide +kernel) (pa_cons (pv 7) pa_nil)) pa_nil))) pa_nil)))
      (pss_one (ps_expr (pe_bm PySem.F.plainAttrs_list PySem.F.slot_list_append PySem.F.type_list_append mt_append (pv 5) (pa_cons (pv 6) pa_nil))))) pss_nil))))
      (pss_one (ps_ret (pe_tup (pa_cons (pe_tup (pa_cons (pe_callB q_len (by rfl) T.z_len (by decide +kernel) (pa_cons (pv 3) pa_nil)) (pa_cons (pv 4) pa_nil))) (pa_cons (pv 5) pa_nil))))))))), pure_crossing_of h⟩


inductive Due | well | net | other | way (i : Nat) | place
def DueIs (wh : Nat) (M : ANet) (ws : List (Int × Int)) (x : Int) : Due → Prop
  | .net => ¬ M.ok
  | .other => ∃ N : Net, M = N.a ∧ N.ok ∧ N.kind ≠ Str.ofString "tree"
  | .way i => ∃ ps, M = (Net.tree ps).a ∧ TreeOk ps ∧ FirstBad (.tree ps) ws i
  | .place => wh = 0 ∧ ∃ ps, M = (Net.tree ps).a ∧ TreeOk ps ∧ (∀ w ∈ ws, isWay (.tree ps) w.1 w.2) ∧ (x < 0 ∨ (ps.length : Int) < x)
  | .well => wh ≠ 2 ∧ ∃ ps, M = (Net.tree ps).a ∧ TreeOk ps ∧ (∀ w ∈ ws, isWay (.tree ps) w.1 w.2) ∧ (wh = 0 → 0 ≤ x ∧ x ≤ ps.length)
def DueQ (A : Ad) (H : Hp) (Q : VK) (E : XK) : Due → Prop
  | .well => ∀ p H', Same H H' → Q (.ref p) H'
  | .net => E (.ref A.c_NoNet) none H
  | .other => E (.ref A.c_OtherNet) none H
  | .place => E (.ref A.c_NoPlace) none H
  | .way i => ∀ d, H d = none → E (.ref A.c_NoWay) (some d) (upd H d (.xd [(Str.ofString "at", .int i)]))
theorem tree_d (ps : List Int) : (Net.tree ps).a.d = (Net.tree ps).d := rfl
def pr_crossing_at (K : PySem.W.Frag) (A : Ad) (v0 v1 v2 : V) (H : Hp) (Q : VK) (E : XK) : Prop := ∃ (M : ANet) (ws : List (Int × Int)) (x : Int) (due : Due), v2 = .int x ∧ Dp K H v0 M.d ∧ M.lens ∧ Dp K H v1 (dPairs ws) ∧ ws.length ≤ 60 ∧ DueIs 0 M ws x due ∧ DueQ A H Q E due
def t_crossing_at (K : PySem.W.Frag) (A : Ad) (E : XK) : TS :=
  (tSeq (tDrop (tCall (sp_must_be_kind K A) [] E (tCons (tVar 0) (tCons (tC (.str (Str.ofString "tree"))) tNil))))
    (tSeq (tDrop (tCall (sp_must_be_ways K A) [] E (tCons (tVar 0) (tCons (tVar 1) tNil))))
    (tSeq (tIfS (tOr (tTest (tOp xLt (tVar 2) (tC (.int 0)))) (tTest (tOp xGe (tVar 2) (tCall (sp_places_of K) [] E0 (tCons (tVar 0) tNil))))) (tRaiseP A.c_NoPlace E) tNext)
    (tRet (tCall (sp_crossing_of K) [] E0 (tCons (tVar 0) (tCons (tVar 1) (tCons (tVar 2) tNil))))))))
theorem pure_crossing_at {v0 v1 v2 : V} {H : Hp} {Q : VK} {E : XK} (h : pr_crossing_at K A v0 v1 v2 H Q E) : t_crossing_at K A E ⟨fun _ H' => Q .non H', Q, fun _ _ => False, fun _ _ => False⟩ [some v0, some v1, some v2] H := by
  obtain ⟨M, ws, x, due, rfl, d0, hl, d1, hz, hd, q⟩ := h
  unfold t_crossing_at
  wtm_at "s"
  cases due with
  | net => exact ⟨_, _, rfl, M, _, rfl, d0, hl, .inl ⟨hd, q⟩⟩
  | other =>
    obtain ⟨N, e, ok, hk⟩ := hd
    exact ⟨_, _, rfl, M, _, rfl, d0, hl, .inr (.inl ⟨N, e, ok, hk, q⟩)⟩
  | way i =>
    obtain ⟨ps, rfl, T, fb⟩ := hd
    refine ⟨_, _, rfl, _, _, rfl, d0, hl, .inr (.inr ⟨.tree ps, rfl, T, rfl, ?_⟩)⟩
    wtm_at "s"
    refine ⟨_, _, rfl, .tree ps, ws, d0, d1, by omega, fun all => (no_bad all fb).elim, fun j fj d nd => ?_⟩
    rw [bad_one fj fb]
    exact q d nd
  | place =>
    obtain ⟨_, ps, rfl, T, all, hx⟩ := hd
    refine ⟨_, _, rfl, _, _, rfl, d0, hl, .inr (.inr ⟨.tree ps, rfl, T, rfl, ?_⟩)⟩
    wtm_at "s"
    refine ⟨_, _, rfl, .tree ps, ws, d0, d1, by omega, fun _ => ?_, fun j fj => (no_bad all fj).elim⟩
    wtm_at "s"
    refine k_it (fun c => ?_) (fun c => ?_)
    · wtm_at "s"
      exact q
    · wtm_at "s"
      refine ⟨_, rfl, .tree ps, d0, ?_⟩
      rw [show Net.places (.tree ps) = (ps.length : Int) + 1 from rfl]
      wtm_at "s"
      exact q
  | well =>
    obtain ⟨_, ps, rfl, T, all, hx⟩ := hd
    obtain ⟨x0, x1⟩ := hx rfl
    refine ⟨_, _, rfl, _, _, rfl, d0, hl, .inr (.inr ⟨.tree ps, rfl, T, rfl, ?_⟩)⟩
    wtm_at "s"
    refine ⟨_, _, rfl, .tree ps, ws, d0, d1, by omega, fun _ => ?_, fun j fj => (no_bad all fj).elim⟩
    wtm_at "s"
    refine ⟨_, rfl, .tree ps, d0, ?_⟩
    rw [show Net.places (.tree ps) = (ps.length : Int) + 1 from rfl]
    wtm_at "s"
    refine ⟨_, _, _, rfl, ps, ws, x, rfl, d0, T, d1, by omega, all, fun p H' cn => ?_⟩
    exact q p H' cn.same
abbrev sp_crossing_at (K : PySem.W.Frag) (A : Ad) : Sp := fun vs H Q E => ∃ v0 v1 v2, vs = [v0, v1, v2] ∧ pr_crossing_at K A v0 v1 v2 H Q E
theorem ok_crossing_at (T : Txt K mg A) : FnOk P w K mg base (L2.CX P w) 5 A.a_crossing_at A.d_crossing_at ["net", "ways", "place"] (sp_crossing_at K A) := by
  refine T.F_crossing_at.okX sc_crossing_at (fun vs H Q E h => by obtain ⟨v0, v1, v2, rfl, _⟩ := h; rfl) (fun cdv A0 outer s H vs Q E hr h => ?_)
  obtain ⟨v0, v1, v2, rfl, h⟩ := h
  exact ⟨t_crossing_at K A E, (pss_cons (ps_expr (pe_call (E := E) (ok_must_be_kind T) (hr.mono (by decide)) (by rfl) T.g_must_be_kind T.F_must_be_kind.kp T.b_must_be_kind .nil (passes_call (takes_of rfl rfl rfl rfl) (fun _ _ _ _ h => h)) (pa_cons (pv 0) (pa_cons pe_str pa_nil))))
      (pss_cons (ps_expr (pe_call (E := E) (ok_must_be_ways T) (hr.mono (by decide)) (by rfl) T.g_must_be_ways T.F_must_be_ways.kp T.b_must_be_ways .nil (passes_call (takes_of rfl rfl rfl rfl) (fun _ _ _ _ h => h)) (pa_cons (pv 0) (pa_cons (pv 1) pa_nil))))
      (pss_cons (ps_if (PW.pt (pw_or (pt_cmpR op_lt (pv 2) pe_int (nomark _)) (pw_or1 (pt_cmpR op_ge (pv 2) (pe_call (ok_places_of T) (hr.mono (by decide)) (by rfl) T.g_places_of T.F_places_of.kp T.b_places_of .nil pass0 (pa_cons (pv 0) pa_nil)) (nomark _))))) (pss_one (ps_raise rfl (takes_of rfl rfl rfl rfl) (pmk_own PySem.F.excBase_ValueError T.e_NoPlace T.k_NoPlace T.p_NoPlace (raises_own T.x_NoPlace.hs T.t_NoPlace) (by rfl)))) pss_nil)
      (pss_one (ps_ret (pe_call (ok_crossing_of T) (hr.mono (by decide)) (by rfl) T.g_crossing_of T.F_crossing_of.kp T.b_crossing_of .nil pass0 (pa_cons (pv 0) (pa_cons (pv 1) (pa_cons (pv 2) pa_nil))))))))), pure_crossing_at h⟩
def pr_join_hues (K : PySem.W.Frag) (A : Ad) (v0 v1 v2 : V) (H : Hp) (Q : VK) (E : XK) : Prop := ∃ (M : ANet) (ws : List (Int × Int)) (x : Int) (due : Due), Dp K H v0 M.d ∧ M.lens ∧ Dp K H v1 (dPairs ws) ∧ ws.length ≤ 60 ∧ DueIs 2 M ws x due ∧ DueQ A H Q E due
def t_join_hues (K : PySem.W.Frag) (A : Ad) (E : XK) : TS :=
  (tSeq (tDrop (tCall (sp_must_be_kind K A) [] E (tCons (tVar 0) (tCons (tC (.str (Str.ofString "tree"))) tNil))))
    (tSeq (tDrop (tCall (sp_must_be_ways K A) [] E (tCons (tVar 0) (tCons (tVar 1) tNil))))
    (tSeq tNever
    (tSeq tNever
    tNever))))
theorem pure_join_hues {v0 v1 v2 : V} {H : Hp} {Q : VK} {E : XK} (h : pr_join_hues K A v0 v1 v2 H Q E) : t_join_hues K A E ⟨fun _ H' => Q .non H', Q, fun _ _ => False, fun _ _ => False⟩ [some v0, some v1, some v2, none] H := by
  obtain ⟨M, ws, x, due, d0, hl, d1, hz, hd, q⟩ := h
  unfold t_join_hues
  wtm_at "s"
  cases due with
  | net => exact ⟨_, _, rfl, M, _, rfl, d0, hl, .inl ⟨hd, q⟩⟩
  | other =>
    obtain ⟨N, e, ok, hk⟩ := hd
    exact ⟨_, _, rfl, M, _, rfl, d0, hl, .inr (.inl ⟨N, e, ok, hk, q⟩)⟩
  | way i =>
    obtain ⟨ps, rfl, T, fb⟩ := hd
    refine ⟨_, _, rfl, _, _, rfl, d0, hl, .inr (.inr ⟨.tree ps, rfl, T, rfl, ?_⟩)⟩
    wtm_at "s"
    refine ⟨_, _, rfl, .tree ps, ws, d0, d1, by omega, fun all => (no_bad all fb).elim, fun j fj d nd => ?_⟩
    rw [bad_one fj fb]
    exact q d nd
  | place => exact absurd hd.1 (by decide)
  | well => exact absurd rfl hd.1
abbrev sp_join_hues (K : PySem.W.Frag) (A : Ad) : Sp := fun vs H Q E => ∃ v0 v1 v2, vs = [v0, v1, v2] ∧ pr_join_hues K A v0 v1 v2 H Q E
theorem ok_join_hues (T : Txt K mg A) : FnOk P w K mg base (L2.CX P w) 5 A.a_join_hues A.d_join_hues ["net", "ways", "lists"] (sp_join_hues K A) := by
  refine T.F_join_hues.okX sc_join_hues (fun vs H Q E h => by obtain ⟨v0, v1, v2, rfl, _⟩ := h; rfl) (fun cdv A0 outer s H vs Q E hr h => ?_)
  obtain ⟨v0, v1, v2, rfl, h⟩ := h
  exact ⟨t_join_hues K A E, (pss_cons (ps_expr (pe_call (E := E) (ok_must_be_kind T) (hr.mono (by decide)) (by rfl) T.g_must_be_kind T.F_must_be_kind.kp T.b_must_be_kind .nil (passes_call (takes_of rfl rfl rfl rfl) (fun _ _ _ _ h => h)) (pa_cons (pv 0) (pa_cons pe_str pa_nil))))
      (pss_cons (ps_expr (pe_call (E := E) (ok_must_be_ways T) (hr.mono (by decide)) (by rfl) T.g_must_be_ways T.F_must_be_ways.kp T.b_must_be_ways .nil (passes_call (takes_of rfl rfl rfl rfl) (fun _ _ _ _ h => h)) (pa_cons (pv 0) (pa_cons (pv 1) pa_nil))))
      (pss_cons ps_never
      (pss_cons ps_never
      (pss_one ps_never))))), pure_join_hues h⟩


/-! ### pairs that meet: chains of two hues, and one and a half times the load -/
def On (p : Int × Int) (v : Int) : Prop := p.1 = v ∨ p.2 = v
instance (p : Int × Int) (v : Int) : Decidable (On p v) := inferInstanceAs (Decidable (_ ∨ _))
/-- hues of the first n pairs: a tie has a hue -/
def Has (n : Nat) (P : Nat → Int × Int) (C : Nat → Int) (v h : Int) : Prop := ∃ k, k < n ∧ C k = h ∧ On (P k) v
def Prp (n : Nat) (P : Nat → Int × Int) (C : Nat → Int) : Prop := ∀ i j, i < n → j < n → i ≠ j → C i = C j → ∀ v, On (P i) v → ¬ On (P j) v
/-- a chain of two hues from a tie on, the one hue first, and the tie at its end -/
inductive Chn (n : Nat) (P : Nat → Int × Int) (C : Nat → Int) : Int → Int → Int → List Nat → Option Int → Prop where
  | stop {v h o : Int} : ¬ Has n P C v h → Chn n P C v h o [] (some v)
  | loop {v h o : Int} {k : Nat} : k < n → C k = h → On (P k) v → (P k).1 = (P k).2 → Chn n P C v h o [k] none
  | step {v h o : Int} {k : Nat} {r : List Nat} {e : Option Int} : k < n → C k = h → On (P k) v → (P k).1 ≠ (P k).2 → Chn n P C ((P k).1 + (P k).2 - v) o h r e → Chn n P C v h o (k :: r) e
section
variable {n : Nat} {P : Nat → Int × Int} {C : Nat → Int}
theorem Prp.one (p : Prp n P C) {i j : Nat} {v : Int} (hi : i < n) (hj : j < n) (e : C i = C j) (a : On (P i) v) (b : On (P j) v) : i = j :=
  Classical.byContradiction fun ne => p i j hi hj ne e v a b
theorem Chn.det (p : Prp n P C) {v h o : Int} {r r' : List Nat} {e e' : Option Int} (a : Chn n P C v h o r e) (b : Chn n P C v h o r' e') : r = r' ∧ e = e' := by
  induction a generalizing r' e' with
  | stop h1 => cases b with
    | stop _ => exact ⟨rfl, rfl⟩
    | loop k1 k2 k3 _ => exact absurd ⟨_, k1, k2, k3⟩ h1
    | step k1 k2 k3 _ _ => exact absurd ⟨_, k1, k2, k3⟩ h1
  | loop k1 k2 k3 k4 => cases b with
    | stop h1 => exact absurd ⟨_, k1, k2, k3⟩ h1
    | loop j1 j2 j3 j4 => exact ⟨by rw [p.one k1 j1 (by rw [k2, j2]) k3 j3], rfl⟩
    | step j1 j2 j3 j4 _ => have := p.one k1 j1 (by rw [k2, j2]) k3 j3; subst this; exact absurd k4 j4
  | step k1 k2 k3 k4 _ ih => cases b with
    | stop h1 => exact absurd ⟨_, k1, k2, k3⟩ h1
    | loop j1 j2 j3 j4 => have := p.one k1 j1 (by rw [k2, j2]) k3 j3; subst this; exact absurd j4 k4
    | step j1 j2 j3 j4 j5 =>
      have := p.one k1 j1 (by rw [k2, j2]) k3 j3
      subst this
      obtain ⟨h1, h2⟩ := ih j5
      exact ⟨by rw [h1], h2⟩
/-- two hues exchanged on some pairs -/
def flp (F : List Nat) (h o : Int) (C : Nat → Int) : Nat → Int := fun k => if k ∈ F then h + o - C k else C k
theorem flp_comm (F : List Nat) (h o : Int) (C : Nat → Int) : flp F o h C = flp F h o C := by
  funext k; unfold flp; split <;> omega
/-- all that clashes does so at v, by the hue h; v has no o -/
structure Alm (n : Nat) (P : Nat → Int × Int) (C : Nat → Int) (v h o : Int) : Prop where
  at_ : ∀ i j, i < n → j < n → i ≠ j → C i = C j → ∀ w, On (P i) w → On (P j) w → w = v ∧ C i = h
  no : ¬ Has n P C v o
theorem other_end {p : Int × Int} {v : Int} (h : On p v) (ne : p.1 ≠ p.2) : On p (p.1 + p.2 - v) ∧ p.1 + p.2 - v ≠ v := by
  unfold On at h ⊢
  rcases h with h | h <;> subst h
  · exact ⟨.inr (by omega), by omega⟩
  · exact ⟨.inl (by omega), by omega⟩
theorem end_of {p : Int × Int} {v w : Int} (h : On p v) (hw : On p w) : w = v ∨ w = p.1 + p.2 - v := by
  unfold On at h hw
  omega
theorem flp_snoc (F : List Nat) (h o : Int) (C : Nat → Int) (k : Nat) : ∀ j, flp (F ++ [k]) h o C j = if j = k then h + o - C j else flp F h o C j := by
  intro j
  unfold flp
  by_cases c : j = k
  · subst c; simp
  · by_cases d : j ∈ F
    · simp [c, d]
    · simp [c, d]
/-- of the pairs at v with the hue h, some flipped, there is but the one that is not flipped -/
theorem two_at {F : List Nat} {v h o : Int} (p : Prp n P C) (hF : ∀ k ∈ F, k < n ∧ (C k = h ∨ C k = o)) {i j : Nat} (hi : i < n) (hj : j < n) (ij : i ≠ j) (ei : flp F h o C i = h) (ej : flp F h o C j = h) (wi : On (P i) v) (wj : On (P j) v) : ∃ k, k < n ∧ k ∉ F ∧ C k = h ∧ On (P k) v ∧ (k = i ∨ k = j) := by
  unfold flp at ei ej
  by_cases ci : i ∈ F
  · by_cases cj : j ∈ F
    · rw [if_pos ci] at ei
      rw [if_pos cj] at ej
      exact absurd wj (p i j hi hj ij (by omega) v wi)
    · rw [if_neg cj] at ej
      exact ⟨j, hj, cj, ej, wj, .inr rfl⟩
  · rw [if_neg ci] at ei
    exact ⟨i, hi, ci, ei, wi, .inl rfl⟩
/-- one step: the pair k, of the hue that is sought, is flipped -/
theorem flip_one {F : List Nat} {v h o : Int} {k : Nat} (p : Prp n P C) (hF : ∀ k ∈ F, k < n ∧ (C k = h ∨ C k = o)) (a : Alm n P (flp F h o C) v h o) (hk : k < n) (hC : C k = h) (hv : On (P k) v) :
    k ∉ F ∧ flp (F ++ [k]) h o C k = o ∧ ∀ i j, i < n → j < n → i ≠ j → flp (F ++ [k]) h o C i = flp (F ++ [k]) h o C j → ∀ w, On (P i) w → On (P j) w → w ≠ v ∧ (i = k ∨ j = k) ∧ flp (F ++ [k]) h o C i = o := by
  have kF : k ∉ F := fun z => a.no ⟨k, hk, by unfold flp; rw [if_pos z, hC]; omega, hv⟩
  have fk' : flp (F ++ [k]) h o C k = o := by rw [flp_snoc, if_pos rfl, hC]; omega
  have fj : ∀ j, j ≠ k → flp (F ++ [k]) h o C j = flp F h o C j := fun j hj => by rw [flp_snoc, if_neg hj]
  refine ⟨kF, fk', fun i j hi hj ij e w wi wj => ?_⟩
  by_cases ci : i = k
  · subst ci
    rw [fk', fj j (fun z => ij z.symm)] at e
    exact ⟨fun z => by subst z; exact a.no ⟨j, hj, e.symm, wj⟩, .inl rfl, fk'⟩
  · by_cases cj : j = k
    · subst cj
      rw [fk', fj i ci] at e
      exact ⟨fun z => by subst z; exact a.no ⟨i, hi, e, wi⟩, .inr rfl, by rw [fj i ci]; exact e⟩
    · rw [fj i ci, fj j cj] at e
      exfalso
      obtain ⟨rfl, eh⟩ := a.at_ i j hi hj ij e w wi wj
      obtain ⟨l, l1, l2, l3, l4, l5⟩ := two_at p hF hi hj ij eh (by rw [← e]; exact eh) wi wj
      have : l = k := p.one l1 hk (by rw [l3, hC]) l4 hv
      rcases l5 with z | z <;> omega
/-- a chain's pairs, flipped, clash nowhere -/
theorem Chn.flip {v h o : Int} {r : List Nat} {e : Option Int} (c : Chn n P C v h o r e) (p : Prp n P C) : h ≠ o → ∀ (F : List Nat), (∀ k ∈ F, k < n ∧ (C k = h ∨ C k = o)) → Alm n P (flp F h o C) v h o → F.Nodup →
    (F ++ r).Nodup ∧ (∀ k ∈ r, k < n ∧ (C k = h ∨ C k = o)) ∧ Prp n P (flp (F ++ r) h o C) := by
  induction c with
  | @stop v h o h1 =>
    intro ho F hF a nd
    refine ⟨by simpa using nd, fun k z => (by cases z), ?_⟩
    rw [List.append_nil]
    intro i j hi hj ij e w wi wj
    obtain ⟨rfl, eh⟩ := a.at_ i j hi hj ij e w wi wj
    obtain ⟨l, l1, l2, l3, l4, l5⟩ := two_at p hF hi hj ij eh (by rw [← e]; exact eh) wi wj
    exact h1 ⟨l, l1, l3, l4⟩
  | @loop v h o k k1 k2 k3 k4 =>
    intro ho F hF a nd
    obtain ⟨kF, fk, cl⟩ := flip_one p hF a k1 k2 k3
    refine ⟨?_, ?_, fun i j hi hj ij e w wi wj => ?_⟩
    · rw [List.nodup_append]
      exact ⟨nd, by simp, fun x hx y hy e => by rw [List.mem_singleton.mp hy] at e; subst e; exact kF hx⟩
    · intro x hx
      rw [List.mem_singleton.mp hx]
      exact ⟨k1, .inl k2⟩
    · obtain ⟨c1, c2, c3⟩ := cl i j hi hj ij e w wi wj
      unfold On at k3
      rcases c2 with rfl | rfl
      · unfold On at wi; omega
      · unfold On at wj; omega
  | @step v h o k r e k1 k2 k3 k4 _ ih =>
    intro ho F hF a nd
    obtain ⟨kF, fk, cl⟩ := flip_one p hF a k1 k2 k3
    obtain ⟨ev, env⟩ := other_end k3 k4
    have nd' : (F ++ [k]).Nodup := by
      rw [List.nodup_append]
      exact ⟨nd, by simp, fun x hx y hy e => by rw [List.mem_singleton.mp hy] at e; subst e; exact kF hx⟩
    have hF' : ∀ j ∈ F ++ [k], j < n ∧ (C j = o ∨ C j = h) := fun j hj => by
      rcases List.mem_append.mp hj with hj | hj
      · exact ⟨(hF j hj).1, (hF j hj).2.symm⟩
      · rw [List.mem_singleton.mp hj]; exact ⟨k1, .inr k2⟩
    have a' : Alm n P (flp (F ++ [k]) o h C) ((P k).1 + (P k).2 - v) o h := by
      rw [flp_comm]
      refine ⟨fun i j hi hj ij e w wi wj => ?_, ?_⟩
      · obtain ⟨c1, c2, c3⟩ := cl i j hi hj ij e w wi wj
        refine ⟨?_, c3⟩
        rcases c2 with rfl | rfl
        · rcases end_of k3 wi with z | z
          · exact absurd z c1
          · exact z
        · rcases end_of k3 wj with z | z
          · exact absurd z c1
          · exact z
      · rintro ⟨j, hj, ej, wj⟩
        by_cases cj : j = k
        · subst cj; rw [fk] at ej; exact ho ej.symm
        · rw [flp_snoc, if_neg cj] at ej
          have fkF : flp F h o C k = h := by unfold flp; rw [if_neg kF, k2]
          exact env (a.at_ j k hj k1 cj (by rw [ej, fkF]) _ wj ev).1
    obtain ⟨g1, g2, g3⟩ := ih (fun z => ho z.symm) (F ++ [k]) hF' a' nd'
    rw [List.append_assoc] at g1 g3
    refine ⟨g1, ?_, by rw [← flp_comm]; exact g3⟩
    intro j hj
    rcases List.mem_cons.mp hj with rfl | hj
    · exact ⟨k1, .inl k2⟩
    · exact ⟨(g2 j hj).1, (g2 j hj).2.symm⟩
theorem Alm.start {v h o : Int} (p : Prp n P C) (no : ¬ Has n P C v o) : Alm n P (flp [] h o C) v h o := by
  have e : flp [] h o C = C := by funext k; unfold flp; rw [if_neg (by simp)]
  rw [e]
  exact ⟨fun i j hi hj ij e w wi wj => absurd wj (p i j hi hj ij e w wi), no⟩
/-- the whole of it: from a tie that lacks the other hue -/
theorem Chn.flip0 {v h o : Int} {r : List Nat} {e : Option Int} (c : Chn n P C v h o r e) (p : Prp n P C) (ho : h ≠ o) (no : ¬ Has n P C v o) : r.Nodup ∧ (∀ k ∈ r, k < n ∧ (C k = h ∨ C k = o)) ∧ Prp n P (flp r h o C) := by
  have := c.flip p ho [] (fun k z => by cases z) (Alm.start p no) List.nodup_nil
  simpa only [List.nil_append] using this
theorem nodup_lt {l : List Nat} (nd : l.Nodup) (h : ∀ k ∈ l, k < n) : l.length ≤ n := by
  have : ∀ (n : Nat) (l : List Nat), l.Nodup → (∀ k ∈ l, k < n) → l.length ≤ n := by
    intro n
    induction n with
    | zero => intro l _ h; cases l with
      | nil => simp
      | cons a r => exact absurd (h a List.mem_cons_self) (by omega)
    | succ n ih =>
      intro l nd h
      by_cases c : n ∈ l
      · have := ih (l.erase n) (nd.erase n) (fun k hk => by
          have h1 := h k (List.mem_of_mem_erase hk)
          have h2 : k ≠ n := fun z => by subst z; exact (List.Nodup.not_mem_erase nd) hk
          omega)
        rw [List.length_erase_of_mem c] at this
        omega
      · have := ih l nd (fun k hk => by
          have h1 := h k hk
          have h2 : k ≠ n := fun z => c (z ▸ hk)
          omega)
        omega
  exact this n l nd h
/-- there is such a chain -/
theorem chn_ex {v h o : Int} (p : Prp n P C) (ho : h ≠ o) (no : ¬ Has n P C v o) : ∃ r e, Chn n P C v h o r e := by
  have key : ∀ (m : Nat) (F : List Nat) (v h o : Int), h ≠ o → F.length + m = n + 1 → (∀ k ∈ F, k < n ∧ (C k = h ∨ C k = o)) → Alm n P (flp F h o C) v h o → F.Nodup → ∃ r e, Chn n P C v h o r e := by
    intro m
    induction m with
    | zero =>
      intro F v h o ho hm hF a nd
      have := nodup_lt nd fun k hk => (hF k hk).1
      omega
    | succ m ih =>
      intro F v h o ho hm hF a nd
      by_cases c : Has n P C v h
      · obtain ⟨k, k1, k2, k3⟩ := c
        by_cases d : (P k).1 = (P k).2
        · exact ⟨_, _, .loop k1 k2 k3 d⟩
        · obtain ⟨kF, fk, cl⟩ := flip_one p hF a k1 k2 k3
          obtain ⟨ev, env⟩ := other_end k3 d
          have nd' : (F ++ [k]).Nodup := by
            rw [List.nodup_append]
            exact ⟨nd, by simp, fun x hx y hy e => by rw [List.mem_singleton.mp hy] at e; subst e; exact kF hx⟩
          have hF' : ∀ j ∈ F ++ [k], j < n ∧ (C j = o ∨ C j = h) := fun j hj => by
            rcases List.mem_append.mp hj with hj | hj
            · exact ⟨(hF j hj).1, (hF j hj).2.symm⟩
            · rw [List.mem_singleton.mp hj]; exact ⟨k1, .inr k2⟩
          have a' : Alm n P (flp (F ++ [k]) o h C) ((P k).1 + (P k).2 - v) o h := by
            rw [flp_comm]
            refine ⟨fun i j hi hj ij e w wi wj => ?_, ?_⟩
            · obtain ⟨c1, c2, c3⟩ := cl i j hi hj ij e w wi wj
              refine ⟨?_, c3⟩
              rcases c2 with rfl | rfl
              · rcases end_of k3 wi with z | z
                · exact absurd z c1
                · exact z
              · rcases end_of k3 wj with z | z
                · exact absurd z c1
                · exact z
            · rintro ⟨j, hj, ej, wj⟩
              by_cases cj : j = k
              · subst cj; rw [fk] at ej; exact ho ej.symm
              · rw [flp_snoc, if_neg cj] at ej
                have fkF : flp F h o C k = h := by unfold flp; rw [if_neg kF, k2]
                exact env (a.at_ j k hj k1 cj (by rw [ej, fkF]) _ wj ev).1
          obtain ⟨r, e, g⟩ := ih (F ++ [k]) _ o h (fun z => ho z.symm) (by simp; omega) hF' a' nd'
          exact ⟨_, _, .step k1 k2 k3 d g⟩
      · exact ⟨_, _, .stop c⟩
  exact key (n + 1) [] v h o ho (by simp) (fun k z => by cases z) (Alm.start p no) List.nodup_nil
/-- a chain that touches a tie by the hue b, where the other hue a is lacking, ends there -/
theorem Chn.touch {v h o : Int} {r : List Nat} {e : Option Int} (c : Chn n P C v h o r e) {a b w : Int} (lack : ¬ Has n P C w a) (ab : (h = a ∧ o = b) ∨ (h = b ∧ o = a)) {j : Nat} (hj : j ∈ r) (jb : C j = b) (jw : On (P j) w) (ne : a ≠ b) : e = some w ∨ (w = v ∧ h = b) := by
  induction c with
  | stop => cases hj
  | @loop v h o k k1 k2 k3 k4 =>
    rw [List.mem_singleton.mp hj] at jb jw
    refine .inr ⟨?_, by omega⟩
    unfold On at k3 jw
    omega
  | @step v h o k r e k1 k2 k3 k4 g ih =>
    rcases List.mem_cons.mp hj with rfl | hj
    · have hb : h = b := by omega
      have oa : o = a := by rcases ab with ⟨z1, z2⟩ | ⟨z1, z2⟩ <;> omega
      rcases end_of k3 jw with z | z
      · exact .inr ⟨z, hb⟩
      · left
        subst z oa
        cases g with
        | stop _ => rfl
        | loop g1 g2 g3 _ => exact absurd ⟨_, g1, g2, g3⟩ lack
        | step g1 g2 g3 _ _ => exact absurd ⟨_, g1, g2, g3⟩ lack
    · rcases ih (ab.symm.imp (fun z => ⟨z.2, z.1⟩) (fun z => ⟨z.2, z.1⟩)) hj with z | ⟨z1, z2⟩
      · exact .inl z
      · exfalso
        have ha : h = a := by rcases ab with ⟨z3, z4⟩ | ⟨z3, z4⟩ <;> omega
        exact lack ⟨k, k1, by rw [k2, ha], by rw [z1]; exact (other_end k3 k4).1⟩
/-- one step of a chain -/
def St (n : Nat) (P : Nat → Int × Int) (C : Nat → Int) (x y : Int × Int × Int) : Prop := ∃ k, k < n ∧ C k = x.2.1 ∧ On (P k) x.1 ∧ (P k).1 ≠ (P k).2 ∧ y = ((P k).1 + (P k).2 - x.1, x.2.2, x.2.1)
inductive Rn (n : Nat) (P : Nat → Int × Int) (C : Nat → Int) : Int × Int × Int → Int × Int × Int → Prop where
  | nil {x : Int × Int × Int} : Rn n P C x x
  | snoc {x y z : Int × Int × Int} : Rn n P C x y → St n P C y z → Rn n P C x z
theorem Rn.cons {x y z : Int × Int × Int} (a : St n P C x y) (b : Rn n P C y z) : Rn n P C x z := by
  induction b with
  | nil => exact .snoc .nil a
  | snoc _ s ih => exact .snoc ih s
theorem Rn.last {x z : Int × Int × Int} (a : Rn n P C x z) : x = z ∨ ∃ y, Rn n P C x y ∧ St n P C y z := by
  cases a with
  | nil => exact .inl rfl
  | snoc q1 q2 => exact .inr ⟨_, q1, q2⟩
theorem Chn.run {v h o : Int} {r : List Nat} {w : Int} {e : Option Int} (c : Chn n P C v h o r e) (he : e = some w) : ∃ x y, Rn n P C (v, h, o) (w, x, y) ∧ ¬ Has n P C w x ∧ ((x = h ∧ y = o) ∨ (x = o ∧ y = h)) := by
  induction c with
  | stop h1 => cases he; exact ⟨_, _, .nil, h1, .inl ⟨rfl, rfl⟩⟩
  | loop => cases he
  | @step v h o k r e k1 k2 k3 k4 g ih =>
    obtain ⟨x, y, g1, g2, g3⟩ := ih he
    exact ⟨x, y, .cons ⟨k, k1, k2, k3, k4, rfl⟩ g1, g2, g3.symm⟩
theorem St.inj (p : Prp n P C) {x y z : Int × Int × Int} (a : St n P C x z) (b : St n P C y z) : x = y := by
  obtain ⟨k, a1, a2, a3, a4, rfl⟩ := a
  obtain ⟨l, b1, b2, b3, b4, e⟩ := b
  obtain ⟨x1, x2, x3⟩ := x
  obtain ⟨y1, y2, y3⟩ := y
  simp only [Prod.mk.injEq] at e
  obtain ⟨e1, e2, e3⟩ := e
  simp only at a2 a3 b2 b3
  subst e2 e3
  have oa := (other_end a3 a4).1
  have ob := (other_end b3 b4).1
  have : k = l := p.one a1 b1 (by rw [a2, b2]) oa (by rw [e1]; exact ob)
  subst this
  have : x1 = y1 := by omega
  subst this
  rfl
/-- what leads to a state that has no predecessor -/
theorem Rn.inj (p : Prp n P C) {x y z : Int × Int × Int} (a : Rn n P C x z) (b : Rn n P C y z) (nx : ∀ u, ¬ St n P C u x) (ny : ∀ u, ¬ St n P C u y) : x = y := by
  induction a generalizing y with
  | nil => cases b with
    | nil => rfl
    | snoc _ s => exact absurd s (nx _)
  | snoc a1 s1 ih => cases b with
    | nil => exact absurd s1 (ny _)
    | snoc b1 s2 =>
      have := St.inj p s1 s2
      subst this
      exact ih b1 ny
theorem no_pre {v h o : Int} (lack : ¬ Has n P C v o) : ∀ u, ¬ St n P C u (v, h, o) := by
  rintro ⟨u1, u2, u3⟩ ⟨k, k1, k2, k3, k4, e⟩
  simp only [Prod.mk.injEq] at e k2 k3
  obtain ⟨e1, e2, e3⟩ := e
  exact lack ⟨k, k1, by rw [k2, e3], by rw [e1]; exact (other_end k3 k4).1⟩
end
section
variable {n : Nat} {P : Nat → Int × Int} {C : Nat → Int}
theorem Prp.congr {C' : Nat → Int} (h : ∀ j, j < n → C' j = C j) (p : Prp n P C) : Prp n P C' := fun i j hi hj ij e v a b => p i j hi hj ij (by rw [← h i hi, ← h j hj]; exact e) v a b
theorem has_congr {C' : Nat → Int} (h : ∀ j, j < n → C' j = C j) {v x : Int} : Has n P C' v x ↔ Has n P C v x :=
  ⟨fun ⟨k, k1, k2, k3⟩ => ⟨k, k1, by rw [← h k k1]; exact k2, k3⟩, fun ⟨k, k1, k2, k3⟩ => ⟨k, k1, by rw [h k k1]; exact k2, k3⟩⟩
/-- one pair more, of a hue that is free at both its ties -/
theorem Prp.more {C' : Nat → Int} {x : Int} (p : Prp n P C) (h : ∀ j, j < n → C' j = C j) (hx : C' n = x) (h1 : ¬ Has n P C (P n).1 x) (h2 : ¬ Has n P C (P n).2 x) : Prp (n + 1) P C' := by
  have free : ∀ j, j < n → C' j = x → ∀ v, On (P n) v → ¬ On (P j) v := fun j hj e v a b => by
    rw [h j hj] at e
    rcases a with a | a
    · exact h1 ⟨j, hj, e, a ▸ b⟩
    · exact h2 ⟨j, hj, e, a ▸ b⟩
  intro i j hi hj ij e v a b
  by_cases ci : i = n
  · subst ci
    exact free j (by omega) (by rw [← e, hx]) v a b
  · by_cases cj : j = n
    · subst cj
      exact free i (by omega) (by rw [e, hx]) v b a
    · exact p i j (by omega) (by omega) ij (by rw [← h i (by omega), ← h j (by omega)]; exact e) v a b
/-- a chain's first tie gives up the first hue -/
theorem Chn.frees {v h o : Int} {r : List Nat} {e : Option Int} (c : Chn n P C v h o r e) (p : Prp n P C) (no : ¬ Has n P C v o) : ¬ Has n P (flp r h o C) v h := by
  rintro ⟨j, j1, j2, j3⟩
  unfold flp at j2
  by_cases d : j ∈ r
  · rw [if_pos d] at j2
    exact no ⟨j, j1, by omega, j3⟩
  · rw [if_neg d] at j2
    cases c with
    | stop h1 => exact h1 ⟨j, j1, j2, j3⟩
    | loop k1 k2 k3 k4 => exact d (by rw [p.one j1 k1 (by rw [j2, k2]) j3 k3]; simp)
    | step k1 k2 k3 k4 _ => exact d (by rw [p.one j1 k1 (by rw [j2, k2]) j3 k3]; simp)
/-- a tie that lacks the first hue, and at which the chain doesn't end, lacks it still -/
theorem Chn.keeps {v h o w : Int} {r : List Nat} {e : Option Int} (c : Chn n P C v h o r e) (ho : h ≠ o) (lack : ¬ Has n P C w h) (he : e ≠ some w) : ¬ Has n P (flp r h o C) w h := by
  rintro ⟨j, j1, j2, j3⟩
  unfold flp at j2
  by_cases d : j ∈ r
  · rw [if_pos d] at j2
    rcases c.touch lack (.inl ⟨rfl, rfl⟩) d (by omega : C j = o) j3 ho with z | ⟨_, z⟩
    · exact he z
    · exact ho z
  · rw [if_neg d] at j2
    exact lack ⟨j, j1, j2, j3⟩
/-- where a chain from t ends at s: the last pair, and the tie beyond it -/
theorem Chn.back {s t a b : Int} {r : List Nat} (c : Chn n P C t a b r (some s)) (p : Prp n P C) (ab : a ≠ b) (st : s ≠ t) (lack : ¬ Has n P C s a) : ∃ k, k < n ∧ C k = b ∧ On (P k) s ∧ (P k).1 ≠ (P k).2 ∧ Has n P C ((P k).1 + (P k).2 - s) a ∧ Rn n P C (t, a, b) (s, a, b) := by
  obtain ⟨x, y, g1, g2, g3⟩ := c.run rfl
  cases g1 with
  | nil => exact absurd rfl st
  | snoc q1 q2 =>
    rename_i u
    obtain ⟨u1, u2, u3⟩ := u
    obtain ⟨k, k1, k2, k3, k4, k5⟩ := id q2
    simp only [Prod.mk.injEq] at k2 k3 k5
    obtain ⟨e1, e2, e3⟩ := k5
    have os := (other_end k3 k4).1
    rw [← e1] at os
    have yb : y = b := by
      rcases g3 with ⟨z1, z2⟩ | ⟨z1, z2⟩
      · exact z2
      · exfalso
        exact lack ⟨k, k1, by rw [k2, ← e3, z2], os⟩
    have xa : x = a := by
      rcases g3 with ⟨z1, z2⟩ | ⟨z1, z2⟩
      · exact z1
      · exact absurd (z2.symm.trans yb) ab
    have hu : u1 = (P k).1 + (P k).2 - s := by omega
    have hb : C k = b := by rw [k2, ← e3, yb]
    refine ⟨k, k1, hb, os, k4, ?_, by have fin := Rn.snoc q1 q2; rw [xa, yb] at fin; exact fin⟩
    have u2' : u2 = b := by rw [← e3, yb]
    have u3' : u3 = a := by rw [← e2, xa]
    subst hu u2' u3'
    cases q1 with
    | nil => exact absurd rfl ab
    | snoc m1 m2 =>
      rename_i m
      obtain ⟨w1, w2, w3⟩ := m
      obtain ⟨l, l1, l2, l3, l4, l5⟩ := m2
      simp only [Prod.mk.injEq] at l2 l3 l5
      refine ⟨l, l1, by rw [l2, ← l5.2.2], ?_⟩
      rw [l5.1]
      exact (other_end l3 l4).1
/-- how many hues a tie has -/
noncomputable def hasB (n : Nat) (P : Nat → Int × Int) (C : Nat → Int) (v : Int) (x : Nat) : Bool := @decide (Has n P C v (x : Int)) (Classical.propDecidable _)
theorem hasB_iff {v : Int} {x : Nat} : hasB n P C v x = true ↔ Has n P C v (x : Int) := by unfold hasB; simp
def deg (n : Nat) (P : Nat → Int × Int) (v : Int) : Nat := (List.range n).countP fun j => decide (On (P j) v)
theorem cnt_or {α : Type} {l : List α} {p q r : α → Bool} (h : ∀ x, p x = true → q x = true ∨ r x = true) : l.countP p ≤ l.countP q + l.countP r := by
  induction l with
  | nil => simp
  | cons a t ih =>
    rw [List.countP_cons, List.countP_cons, List.countP_cons]
    by_cases c : p a = true
    · rcases h a c with d | d <;> simp only [c, d, if_true] <;> omega
    · rw [if_neg c]
      split <;> split <;> omega
theorem cnt_eq1 (M : Nat) (x : Int) : (List.range M).countP (fun (y : Nat) => decide ((y : Int) = x)) ≤ 1 := by
  induction M with
  | zero => simp
  | succ m ih =>
    rw [List.range_succ, List.countP_append]
    by_cases c : (m : Int) = x
    · have z : (List.range m).countP (fun (y : Nat) => decide ((y : Int) = x)) = 0 := by
        rw [List.countP_eq_zero]
        intro y hy
        have := List.mem_range.mp hy
        simp; omega
      rw [z]; simp [List.countP_cons]; split <;> omega
    · simp [c]; exact ih
theorem used_le (M : Nat) (v : Int) : (List.range M).countP (hasB n P C v) ≤ deg n P v := by
  induction n with
  | zero =>
    have : (List.range M).countP (hasB 0 P C v) = 0 := by
      rw [List.countP_eq_zero]
      intro x _ h
      obtain ⟨k, k1, _⟩ := hasB_iff.mp h
      omega
    omega
  | succ n ih =>
    have e : deg (n + 1) P v = deg n P v + if On (P n) v then 1 else 0 := by
      unfold deg
      rw [List.range_succ, List.countP_append, List.countP_singleton]
      simp
    rw [e]
    by_cases c : On (P n) v
    · rw [if_pos c]
      have h1 := cnt_or (l := List.range M) (p := hasB (n + 1) P C v) (q := hasB n P C v) (r := fun (y : Nat) => decide ((y : Int) = C n)) (fun x hx => by
        obtain ⟨k, k1, k2, k3⟩ := hasB_iff.mp hx
        by_cases d : k = n
        · subst d; right; simp [k2]
        · left; exact hasB_iff.mpr ⟨k, by omega, k2, k3⟩)
      have h2 := cnt_eq1 M (C n)
      omega
    · rw [if_neg c]
      have h1 : (List.range M).countP (hasB (n + 1) P C v) ≤ (List.range M).countP (hasB n P C v) := List.countP_mono_left fun x _ hx => by
        obtain ⟨k, k1, k2, k3⟩ := hasB_iff.mp hx
        by_cases d : k = n
        · subst d; exact absurd k3 c
        · exact hasB_iff.mpr ⟨k, by omega, k2, k3⟩
      omega
/-- a tie with fewer pairs than hues lacks one -/
theorem lack_ex {M : Nat} {v : Int} (h : deg n P v < M) : ∃ x : Nat, x < M ∧ ¬ Has n P C v (x : Int) := by
  refine Classical.byContradiction fun z => ?_
  have : (List.range M).countP (hasB n P C v) = M := by
    have e : (List.range M).countP (hasB n P C v) = (List.range M).length := List.countP_eq_length.mpr fun x hx => hasB_iff.mpr (Classical.byContradiction fun w => z ⟨x, List.mem_range.mp hx, w⟩)
    rw [e]; simp
  have := used_le (n := n) (P := P) (C := C) M v
  omega
theorem cnt_two {α : Type} {l : List α} {p q r : α → Bool} (h : ∀ x ∈ l, (p x = true ∧ q x = true) ∨ (p x = true ∧ r x = true) ∨ (q x = true ∧ r x = true)) : 2 * l.length ≤ l.countP p + l.countP q + l.countP r := by
  induction l with
  | nil => simp
  | cons a t ih =>
    have := ih fun x hx => h x (List.mem_cons_of_mem _ hx)
    rw [List.countP_cons, List.countP_cons, List.countP_cons, List.length_cons]
    rcases h a List.mem_cons_self with ⟨c, d⟩ | ⟨c, d⟩ | ⟨c, d⟩ <;> simp only [c, d, if_true] <;> split <;> omega
/-- of three ties, two of which have a pair more to come, two lack one hue -/
theorem two_lack {M L : Nat} {s t z : Int} (hM : M = 3 * L / 2) (L1 : 1 ≤ L) (hs : deg n P s + 1 ≤ L) (ht : deg n P t + 1 ≤ L) (hz : deg n P z ≤ L) : ∃ x : Nat, x < M ∧ ((¬ Has n P C s (x : Int) ∧ ¬ Has n P C t (x : Int)) ∨ (¬ Has n P C s (x : Int) ∧ ¬ Has n P C z (x : Int)) ∨ (¬ Has n P C t (x : Int) ∧ ¬ Has n P C z (x : Int))) := by
  refine Classical.byContradiction fun no => ?_
  have h := cnt_two (l := List.range M) (p := hasB n P C s) (q := hasB n P C t) (r := hasB n P C z) (fun x hx => by
    have hx' := List.mem_range.mp hx
    refine Classical.byContradiction fun w => no ⟨x, hx', ?_⟩
    simp only [hasB_iff] at w
    by_cases a : Has n P C s (x : Int)
    · by_cases b : Has n P C t (x : Int)
      · exact absurd (.inl ⟨a, b⟩) w
      · by_cases c : Has n P C z (x : Int)
        · exact absurd (.inr (.inl ⟨a, c⟩)) w
        · exact .inr (.inr ⟨b, c⟩)
    · by_cases b : Has n P C t (x : Int)
      · by_cases c : Has n P C z (x : Int)
        · exact absurd (.inr (.inr ⟨b, c⟩)) w
        · exact .inr (.inl ⟨a, c⟩)
      · exact .inl ⟨a, b⟩)
  have u1 := used_le (n := n) (P := P) (C := C) M s
  have u2 := used_le (n := n) (P := P) (C := C) M t
  have u3 := used_le (n := n) (P := P) (C := C) M z
  rw [List.length_range] at h
  omega
end
/-! ### the same by lists: what the program does -/
abbrev Pj (ps : List (Int × Int)) : Nat → Int × Int := fun j => ps.getD j (0, 0)
abbrev Cj (cs : List Int) : Nat → Int := fun j => cs.getD j 0
def byF (ps : List (Int × Int)) (cs : List Int) (v h : Int) : Option Nat := (List.range cs.length).find? fun j => decide (Cj cs j = h) && decide (On (Pj ps j) v)
def freeF (ps : List (Int × Int)) (cs : List Int) (M : Nat) (v : Int) : List Int := ((List.range M).map fun (i : Nat) => (i : Int)).filter fun h => (byF ps cs v h).isNone
abbrev ChnL (ps : List (Int × Int)) (cs : List Int) := Chn cs.length (Pj ps) (Cj cs)
abbrev HasL (ps : List (Int × Int)) (cs : List Int) := Has cs.length (Pj ps) (Cj cs)
abbrev PrpL (ps : List (Int × Int)) (cs : List Int) := Prp cs.length (Pj ps) (Cj cs)
open Classical in
noncomputable def chnF (ps : List (Int × Int)) (cs : List Int) (v h o : Int) : List Nat × Option Int := if x : ∃ re : List Nat × Option Int, ChnL ps cs v h o re.1 re.2 then x.choose else ([], none)
def exF (cs : List Int) (r : List Nat) (h o : Int) : List Int := (List.range cs.length).map fun j => flp r h o (Cj cs) j
open Classical in
noncomputable def tryB (ps : List (Int × Int)) (cs : List Int) (s t a : Int) (bs : List Int) : Option Int := bs.find? fun b => decide ((chnF ps cs t a b).2 ≠ some s)
noncomputable def tryF (ps : List (Int × Int)) (cs : List Int) (s t : Int) (as bs : List Int) : Option (Int × Int) := as.findSome? fun a => (tryB ps cs s t a bs).map fun b => (a, b)
noncomputable def directF (ps : List (Int × Int)) (M : Nat) (cs : List Int) (k : Nat) : Option (List Int) := match (freeF ps cs M (Pj ps k).1).filter (fun x => decide (x ∈ freeF ps cs M (Pj ps k).2)) with
  | x :: _ => some (cs ++ [x])
  | [] => match tryF ps cs (Pj ps k).1 (Pj ps k).2 (freeF ps cs M (Pj ps k).1) (freeF ps cs M (Pj ps k).2) with
    | some ab => some (exF cs (chnF ps cs (Pj ps k).2 ab.1 ab.2).1 ab.1 ab.2 ++ [ab.1])
    | none => none
/-- what round_about goes by: the free hue b, the pair that has it, the tie beyond, the hues a and c -/
structure Rnd (ps : List (Int × Int)) (M : Nat) (cs : List Int) (k : Nat) (b a c : Int) (o : Nat) (r : List Nat) (e : Option Int) : Prop where
  hb : ∃ l, freeF ps cs M (Pj ps k).2 = b :: l
  ho : byF ps cs (Pj ps k).1 b = some o
  ha : ∃ l, freeF ps cs M (Pj ps k).1 = a :: l
  hc : ∃ l, (freeF ps cs M (Pj ps k).2).filter (fun x => decide (x ∈ freeF ps cs M ((Pj ps o).1 + (Pj ps o).2 - (Pj ps k).1))) = c :: l
  hr : ChnL ps cs ((Pj ps o).1 + (Pj ps o).2 - (Pj ps k).1) a c r e
def rndF (cs : List Int) (b a c : Int) (o : Nat) (r : List Nat) : List Int := (exF cs r a c).set o a ++ [b]
open Classical in
noncomputable def putF (ps : List (Int × Int)) (M : Nat) (cs : List Int) (k : Nat) : List Int := match directF ps M cs k with
  | some cs' => cs'
  | none => if x : ∃ y : Int × Int × Int × Nat × List Nat × Option Int, Rnd ps M cs k y.1 y.2.1 y.2.2.1 y.2.2.2.1 y.2.2.2.2.1 y.2.2.2.2.2 then rndF cs x.choose.1 x.choose.2.1 x.choose.2.2.1 x.choose.2.2.2.1 x.choose.2.2.2.2.1 else cs
noncomputable def crossF (ps : List (Int × Int)) (M : Nat) : Nat → List Int
  | 0 => []
  | k + 1 => putF ps M (crossF ps M k) k
section
variable {ps : List (Int × Int)} {cs : List Int} {M : Nat}
theorem by_some {v h : Int} {k : Nat} (e : byF ps cs v h = some k) : k < cs.length ∧ Cj cs k = h ∧ On (Pj ps k) v := by
  unfold byF at e
  have h1 := List.mem_of_find?_eq_some e
  have h2 := List.find?_some e
  simp only [Bool.and_eq_true, decide_eq_true_eq] at h2
  exact ⟨List.mem_range.mp h1, h2.1, h2.2⟩
theorem by_none {v h : Int} (e : byF ps cs v h = none) : ¬ HasL ps cs v h := by
  unfold byF at e
  rintro ⟨k, k1, k2, k3⟩
  have := List.find?_eq_none.mp e k (List.mem_range.mpr k1)
  simp only [Bool.and_eq_true, decide_eq_true_eq] at this
  exact this ⟨k2, k3⟩
theorem by_has {v h : Int} (x : HasL ps cs v h) : ∃ k, byF ps cs v h = some k := by
  cases e : byF ps cs v h with
  | some k => exact ⟨k, rfl⟩
  | none => exact absurd x (by_none e)
theorem free_mem {v x : Int} : x ∈ freeF ps cs M v ↔ 0 ≤ x ∧ x < M ∧ ¬ HasL ps cs v x := by
  unfold freeF
  rw [List.mem_filter, List.mem_map]
  constructor
  · rintro ⟨⟨i, hi, rfl⟩, h⟩
    have := List.mem_range.mp hi
    refine ⟨by omega, by omega, ?_⟩
    cases e : byF ps cs v (i : Int) with
    | some k => rw [e] at h; cases h
    | none => exact by_none e
  · rintro ⟨h0, h1, h2⟩
    refine ⟨⟨x.toNat, List.mem_range.mpr (by omega), by omega⟩, ?_⟩
    cases e : byF ps cs v x with
    | some k => exact absurd ⟨k, by_some e⟩ h2
    | none => rfl
theorem chnF_eq {v h o : Int} {r : List Nat} {e : Option Int} (p : PrpL ps cs) (c : ChnL ps cs v h o r e) : chnF ps cs v h o = (r, e) := by
  unfold chnF
  have x : ∃ re : List Nat × Option Int, ChnL ps cs v h o re.1 re.2 := ⟨(r, e), c⟩
  rw [dif_pos x]
  obtain ⟨h1, h2⟩ := Chn.det p x.choose_spec c
  exact Prod.ext h1 h2
theorem ex_len (r : List Nat) (h o : Int) : (exF cs r h o).length = cs.length := by unfold exF; simp
theorem ex_at {r : List Nat} {h o : Int} {j : Nat} (hj : j < cs.length) : Cj (exF cs r h o) j = flp r h o (Cj cs) j := by
  show (exF cs r h o).getD j 0 = _
  unfold exF
  rw [List.getD_eq_getElem?_getD, List.getElem?_map, List.getElem?_range hj]; rfl
theorem snoc_at {x : Int} {j : Nat} (hj : j < cs.length) : Cj (cs ++ [x]) j = Cj cs j := by
  show (cs ++ [x]).getD j 0 = cs.getD j 0
  rw [List.getD_eq_getElem?_getD, List.getD_eq_getElem?_getD, List.getElem?_append_left hj]
theorem snoc_last {x : Int} : Cj (cs ++ [x]) cs.length = x := by
  show (cs ++ [x]).getD cs.length 0 = x
  rw [List.getD_eq_getElem?_getD, List.getElem?_append_right (Nat.le_refl _)]; simp
/-- right hues of the first pairs, all less than M -/
structure Good (ps : List (Int × Int)) (cs : List Int) (M : Nat) : Prop where
  len : cs.length ≤ ps.length
  prp : PrpL ps cs
  bnd : ∀ c ∈ cs, 0 ≤ c ∧ c < M
theorem Good.nil : Good ps [] M := ⟨by simp, (fun i j hi => by simp at hi), fun c z => by cases z⟩
theorem Good.at {c : List Int} (g : Good ps c M) {j : Nat} (hj : j < c.length) : 0 ≤ Cj c j ∧ Cj c j < M := g.bnd _ (by
  show c.getD j 0 ∈ c
  rw [List.getD_eq_getElem?_getD, List.getElem?_eq_getElem hj]
  exact List.getElem_mem hj)
theorem good_of {c : List Int} (l : c.length ≤ ps.length) (p : PrpL ps c) (b : ∀ j, j < c.length → 0 ≤ Cj c j ∧ Cj c j < M) : Good ps c M := ⟨l, p, fun x hx => by
  obtain ⟨j, hj, rfl⟩ := List.mem_iff_getElem.mp hx
  have := b j hj
  have e : Cj c j = c[j] := by show c.getD j 0 = c[j]; rw [List.getD_eq_getElem?_getD, List.getElem?_eq_getElem hj]; rfl
  rwa [e] at this⟩
theorem Good.snoc {x : Int} (g : Good ps cs M) (l : cs.length < ps.length) (h1 : ¬ HasL ps cs (Pj ps cs.length).1 x) (h2 : ¬ HasL ps cs (Pj ps cs.length).2 x) (x0 : 0 ≤ x) (x1 : x < M) : Good ps (cs ++ [x]) M := by
  refine ⟨by simp; omega, ?_, fun c hc => ?_⟩
  · have := g.prp.more (C' := Cj (cs ++ [x])) (fun j hj => snoc_at hj) snoc_last h1 h2
    have e : (cs ++ [x]).length = cs.length + 1 := by simp
    show Prp (cs ++ [x]).length _ _
    rw [e]; exact this
  · rcases List.mem_append.mp hc with hc | hc
    · exact g.bnd c hc
    · rw [List.mem_singleton.mp hc]; exact ⟨x0, x1⟩
theorem Good.ex {v h o : Int} {r : List Nat} {e : Option Int} (g : Good ps cs M) (c : ChnL ps cs v h o r e) (ho : h ≠ o) (no : ¬ HasL ps cs v o) (h0 : 0 ≤ h ∧ h < M) (o0 : 0 ≤ o ∧ o < M) : Good ps (exF cs r h o) M := by
  obtain ⟨_, f2, f3⟩ := c.flip0 g.prp ho no
  refine good_of (by rw [ex_len]; exact g.len) ?_ ?_
  · show Prp (exF cs r h o).length _ _
    rw [ex_len]
    exact f3.congr fun j hj => ex_at hj
  · intro j hj
    rw [ex_len] at hj
    rw [ex_at hj]
    unfold flp
    split
    · rename_i d
      rcases (f2 j d).2 with z | z <;> omega
    · exact g.at hj
theorem has_ex {r : List Nat} {h o v x : Int} : HasL ps (exF cs r h o) v x ↔ Has cs.length (Pj ps) (flp r h o (Cj cs)) v x := by
  show Has (exF cs r h o).length _ _ v x ↔ _
  rw [ex_len]
  exact has_congr fun j hj => ex_at hj
/-- where no hue is free at both ties: what is known -/
structure Apart (ps : List (Int × Int)) (cs : List Int) (M : Nat) (s t : Int) : Prop where
  no : ∀ x, x ∈ freeF ps cs M s → x ∉ freeF ps cs M t
theorem filter_nil {as bs : List Int} (h : as.filter (fun x => decide (x ∈ bs)) = []) : ∀ x, x ∈ as → x ∉ bs := fun x hx hb => by
  have := List.filter_eq_nil_iff.mp h x hx
  simp at this
  exact this hb
theorem tryF_none {s t : Int} {as bs : List Int} (h : tryF ps cs s t as bs = none) : ∀ a ∈ as, ∀ b ∈ bs, (chnF ps cs t a b).2 = some s := fun a ha b hb => by
  unfold tryF at h
  have h1 := List.findSome?_eq_none_iff.mp h a ha
  have h2 : tryB ps cs s t a bs = none := by
    cases e : tryB ps cs s t a bs with
    | none => rfl
    | some b => rw [e] at h1; cases h1
  unfold tryB at h2
  have := List.find?_eq_none.mp h2 b hb
  simpa using this
theorem tryF_some {s t : Int} {as bs : List Int} {ab : Int × Int} (h : tryF ps cs s t as bs = some ab) : ab.1 ∈ as ∧ ab.2 ∈ bs ∧ (chnF ps cs t ab.1 ab.2).2 ≠ some s := by
  unfold tryF at h
  obtain ⟨a, ha, h1⟩ := List.exists_of_findSome?_eq_some h
  obtain ⟨b, hb, rfl⟩ := Option.map_eq_some_iff.mp h1
  unfold tryB at hb
  have h2 := List.find?_some hb
  simp at h2
  exact ⟨ha, List.mem_of_find?_eq_some hb, h2⟩
/-- a chain from the second tie by free hues that are unlike -/
theorem chn_at {t a b : Int} {s : Int} (g : Good ps cs M) (ap : Apart ps cs M s t) (ha : a ∈ freeF ps cs M s) (hb : b ∈ freeF ps cs M t) : a ≠ b ∧ ¬ HasL ps cs t b ∧ ¬ HasL ps cs s a ∧ ∃ r e, ChnL ps cs t a b r e ∧ chnF ps cs t a b = (r, e) := by
  have ne : a ≠ b := fun z => ap.no a ha (z ▸ hb)
  have nb := (free_mem.mp hb).2.2
  obtain ⟨r, e, c⟩ := chn_ex g.prp ne nb
  exact ⟨ne, nb, (free_mem.mp ha).2.2, r, e, c, chnF_eq g.prp c⟩
theorem direct_good {k : Nat} {cs' : List Int} (g : Good ps cs M) (hk : cs.length = k) (hl : k < ps.length) (h : directF ps M cs k = some cs') : Good ps cs' M ∧ cs'.length = k + 1 := by
  subst hk
  unfold directF at h
  split at h
  · rename_i x l e
    cases h
    have hx : x ∈ (freeF ps cs M (Pj ps cs.length).1).filter (fun x => decide (x ∈ freeF ps cs M (Pj ps cs.length).2)) := by rw [e]; exact List.mem_cons_self
    obtain ⟨h1, h2⟩ := List.mem_filter.mp hx
    have h2' : x ∈ freeF ps cs M (Pj ps cs.length).2 := by simpa using h2
    obtain ⟨a1, a2, a3⟩ := free_mem.mp h1
    exact ⟨g.snoc hl a3 (free_mem.mp h2').2.2 a1 a2, by simp⟩
  · rename_i e
    split at h
    · rename_i ab e2
      cases h
      obtain ⟨h1, h2, h3⟩ := tryF_some e2
      obtain ⟨ne, nb, na, r, en, c, ce⟩ := chn_at g ⟨filter_nil e⟩ h1 h2
      rw [ce] at h3 ⊢
      obtain ⟨a1, a2, _⟩ := free_mem.mp h1
      obtain ⟨b1, b2, _⟩ := free_mem.mp h2
      have g2 := g.ex c ne nb ⟨a1, a2⟩ ⟨b1, b2⟩
      have l2 := ex_len (cs := cs) r ab.1 ab.2
      refine ⟨g2.snoc (by rw [l2]; exact hl) ?_ ?_ a1 a2, by simp [l2]⟩
      · rw [l2, has_ex]; exact c.keeps ne na h3
      · rw [l2, has_ex]; exact c.frees g.prp nb
    · cases h
theorem head_ex {v : Int} (h : deg cs.length (Pj ps) v < M) : ∃ x l, freeF ps cs M v = x :: l := by
  obtain ⟨x, h1, h2⟩ := lack_ex (C := Cj cs) h
  have : (x : Int) ∈ freeF ps cs M v := free_mem.mpr ⟨by omega, by omega, h2⟩
  cases e : freeF ps cs M v with
  | nil => rw [e] at this; cases this
  | cons y l => exact ⟨y, l, rfl⟩
theorem deg_mono {n m : Nat} {P : Nat → Int × Int} {v : Int} (h : n ≤ m) : deg n P v ≤ deg m P v := by
  unfold deg
  obtain ⟨d, rfl⟩ := Nat.exists_eq_add_of_le h
  rw [List.range_add, List.countP_append]
  omega
theorem deg_next {n m : Nat} {P : Nat → Int × Int} {v : Int} (h : n < m) (on : On (P n) v) : deg n P v + 1 ≤ deg m P v := by
  refine Nat.le_trans ?_ (deg_mono (n := n + 1) h)
  unfold deg
  rw [List.range_succ, List.countP_append, List.countP_singleton]
  simp [on]
/-- where direct fails: what round_about goes by is there, and what it makes is right -/
theorem rnd_ex {k L : Nat} (g : Good ps cs M) (hk : cs.length = k) (hl : k < ps.length) (hM : M = 3 * L / 2) (hL : ∀ v, deg ps.length (Pj ps) v ≤ L) (h : directF ps M cs k = none) : ∃ b a c o r e, Rnd ps M cs k b a c o r e := by
  subst hk
  have ds := deg_next (P := Pj ps) hl (.inl rfl : On (Pj ps cs.length) (Pj ps cs.length).1)
  have dt := deg_next (P := Pj ps) hl (.inr rfl : On (Pj ps cs.length) (Pj ps cs.length).2)
  have Ls := hL (Pj ps cs.length).1
  have Lt := hL (Pj ps cs.length).2
  unfold directF at h
  split at h
  · cases h
  rename_i e
  split at h
  · cases h
  rename_i e2
  have ap : Apart ps cs M (Pj ps cs.length).1 (Pj ps cs.length).2 := ⟨filter_nil e⟩
  have all := tryF_none e2
  obtain ⟨a, la, ha⟩ := head_ex (ps := ps) (cs := cs) (M := M) (v := (Pj ps cs.length).1) (by omega)
  obtain ⟨b, lb, hb⟩ := head_ex (ps := ps) (cs := cs) (M := M) (v := (Pj ps cs.length).2) (by omega)
  have am : a ∈ freeF ps cs M (Pj ps cs.length).1 := by rw [ha]; exact List.mem_cons_self
  have bm : b ∈ freeF ps cs M (Pj ps cs.length).2 := by rw [hb]; exact List.mem_cons_self
  have st : (Pj ps cs.length).1 ≠ (Pj ps cs.length).2 := fun z => ap.no a am (by rw [← z]; exact am)
  have key : ∀ a', a' ∈ freeF ps cs M (Pj ps cs.length).1 → ∀ b', b' ∈ freeF ps cs M (Pj ps cs.length).2 → ∃ k, k < cs.length ∧ Cj cs k = b' ∧ On (Pj ps k) (Pj ps cs.length).1 ∧ (Pj ps k).1 ≠ (Pj ps k).2 ∧ HasL ps cs ((Pj ps k).1 + (Pj ps k).2 - (Pj ps cs.length).1) a' ∧ Rn cs.length (Pj ps) (Cj cs) ((Pj ps cs.length).2, a', b') ((Pj ps cs.length).1, a', b') := fun a' ha' b' hb' => by
    obtain ⟨ne, nb, na, r, en, c, ce⟩ := chn_at g ap ha' hb'
    have := all a' ha' b' hb'
    rw [ce] at this
    simp only at this
    subst this
    exact c.back g.prp ne st na
  obtain ⟨k, k1, k2, k3, k4, k5, k6⟩ := key a am b bm
  obtain ⟨o, ho⟩ := by_has (ps := ps) (cs := cs) ⟨k, k1, k2, k3⟩
  obtain ⟨o1, o2, o3⟩ := by_some ho
  have ok : o = k := g.prp.one o1 k1 (by rw [o2, k2]) o3 k3
  subst ok
  obtain ⟨oz, ozs⟩ := other_end k3 k4
  -- a hue that is free at t and z
  have hz : ∀ x, x ∈ freeF ps cs M (Pj ps cs.length).1 → HasL ps cs ((Pj ps o).1 + (Pj ps o).2 - (Pj ps cs.length).1) x := fun x hx => by
    obtain ⟨j, j1, j2, j3, j4, j5, _⟩ := key x hx b bm
    have : j = o := g.prp.one j1 k1 (by rw [j2, k2]) j3 k3
    subst this
    exact j5
  obtain ⟨x, x1, x2⟩ := two_lack (C := Cj cs) hM (by omega) (s := (Pj ps cs.length).1) (t := (Pj ps cs.length).2) (z := (Pj ps o).1 + (Pj ps o).2 - (Pj ps cs.length).1) (Nat.le_trans ds Ls) (Nat.le_trans dt Lt) (Nat.le_trans (deg_mono (by omega)) (hL _))
  have xm : (x : Int) ∈ (freeF ps cs M (Pj ps cs.length).2).filter (fun x => decide (x ∈ freeF ps cs M ((Pj ps o).1 + (Pj ps o).2 - (Pj ps cs.length).1))) := by
    rw [List.mem_filter]
    rcases x2 with ⟨y1, y2⟩ | ⟨y1, y2⟩ | ⟨y1, y2⟩
    · exact absurd (free_mem.mpr ⟨by omega, by omega, y2⟩) (ap.no x (free_mem.mpr ⟨by omega, by omega, y1⟩))
    · exact absurd (hz x (free_mem.mpr ⟨by omega, by omega, y1⟩)) y2
    · exact ⟨free_mem.mpr ⟨by omega, by omega, y1⟩, by simpa using free_mem.mpr ⟨by omega, by omega, y2⟩⟩
  obtain ⟨c, lc, hc⟩ : ∃ c l, (freeF ps cs M (Pj ps cs.length).2).filter (fun x => decide (x ∈ freeF ps cs M ((Pj ps o).1 + (Pj ps o).2 - (Pj ps cs.length).1))) = c :: l := by
    cases e3 : (freeF ps cs M (Pj ps cs.length).2).filter (fun x => decide (x ∈ freeF ps cs M ((Pj ps o).1 + (Pj ps o).2 - (Pj ps cs.length).1))) with
    | nil => rw [e3] at xm; cases xm
    | cons y l => exact ⟨y, l, rfl⟩
  have cm : c ∈ (freeF ps cs M (Pj ps cs.length).2).filter (fun x => decide (x ∈ freeF ps cs M ((Pj ps o).1 + (Pj ps o).2 - (Pj ps cs.length).1))) := by rw [hc]; exact List.mem_cons_self
  obtain ⟨c1, c2⟩ := List.mem_filter.mp cm
  have c2' : c ∈ freeF ps cs M ((Pj ps o).1 + (Pj ps o).2 - (Pj ps cs.length).1) := by simpa using c2
  have ac : a ≠ c := fun z => ap.no a am (z ▸ c1)
  obtain ⟨r, en, ch⟩ := chn_ex g.prp ac (free_mem.mp c2').2.2
  exact ⟨b, a, c, o, r, en, ⟨lb, hb⟩, ho, ⟨la, ha⟩, ⟨lc, hc⟩, ch⟩
theorem Rnd.one {k : Nat} {b a c b' a' c' : Int} {o o' : Nat} {r r' : List Nat} {e e' : Option Int} (p : PrpL ps cs) (x : Rnd ps M cs k b a c o r e) (y : Rnd ps M cs k b' a' c' o' r' e') : b = b' ∧ a = a' ∧ c = c' ∧ o = o' ∧ r = r' := by
  obtain ⟨⟨_, h1⟩, h2, ⟨_, h3⟩, ⟨_, h4⟩, h5⟩ := x
  obtain ⟨⟨_, g1⟩, g2, ⟨_, g3⟩, ⟨_, g4⟩, g5⟩ := y
  rw [h1] at g1
  obtain ⟨rfl, _⟩ := List.cons.inj g1
  rw [h2] at g2
  cases g2
  rw [h3] at g3
  obtain ⟨rfl, _⟩ := List.cons.inj g3
  rw [h4] at g4
  obtain ⟨rfl, _⟩ := List.cons.inj g4
  exact ⟨rfl, rfl, rfl, rfl, (Chn.det p h5 g5).1⟩
theorem putF_direct {k : Nat} {cs' : List Int} (h : directF ps M cs k = some cs') : putF ps M cs k = cs' := by
  unfold putF; rw [h]
theorem putF_rnd {k : Nat} {b a c : Int} {o : Nat} {r : List Nat} {e : Option Int} (p : PrpL ps cs) (h : directF ps M cs k = none) (x : Rnd ps M cs k b a c o r e) : putF ps M cs k = rndF cs b a c o r := by
  unfold putF
  have ex : ∃ y : Int × Int × Int × Nat × List Nat × Option Int, Rnd ps M cs k y.1 y.2.1 y.2.2.1 y.2.2.2.1 y.2.2.2.2.1 y.2.2.2.2.2 := ⟨(b, a, c, o, r, e), x⟩
  simp only [h]
  rw [dif_pos ex]
  obtain ⟨h1, h2, h3, h4, h5⟩ := Rnd.one p ex.choose_spec x
  rw [h1, h2, h3, h4, h5]
theorem set_at {o j : Nat} {a : Int} (h : o < cs.length) : Cj (cs.set o a) j = if j = o then a else Cj cs j := by
  show (cs.set o a).getD j 0 = _
  rw [List.getD_eq_getElem?_getD, List.getElem?_set]
  by_cases c : o = j
  · subst c; rw [if_pos rfl, if_pos h, if_pos rfl]; rfl
  · rw [if_neg c, if_neg (fun z => c z.symm), ← List.getD_eq_getElem?_getD]
theorem rnd_good {k L : Nat} {b a c : Int} {o : Nat} {r : List Nat} {e : Option Int} (g : Good ps cs M) (hk : cs.length = k) (hl : k < ps.length) (h : directF ps M cs k = none) (x : Rnd ps M cs k b a c o r e) : Good ps (rndF cs b a c o r) M ∧ (rndF cs b a c o r).length = k + 1 := by
  subst hk
  unfold directF at h
  split at h
  · cases h
  rename_i e1
  split at h
  · cases h
  rename_i e2
  have ap : Apart ps cs M (Pj ps cs.length).1 (Pj ps cs.length).2 := ⟨filter_nil e1⟩
  have all := tryF_none e2
  obtain ⟨⟨lb, hb⟩, ho, ⟨la, ha⟩, ⟨lc, hc⟩, ch⟩ := x
  have am : a ∈ freeF ps cs M (Pj ps cs.length).1 := by rw [ha]; exact List.mem_cons_self
  have bm : b ∈ freeF ps cs M (Pj ps cs.length).2 := by rw [hb]; exact List.mem_cons_self
  have cm : c ∈ (freeF ps cs M (Pj ps cs.length).2).filter (fun x => decide (x ∈ freeF ps cs M ((Pj ps o).1 + (Pj ps o).2 - (Pj ps cs.length).1))) := by rw [hc]; exact List.mem_cons_self
  obtain ⟨c1, c2⟩ := List.mem_filter.mp cm
  have c2' : c ∈ freeF ps cs M ((Pj ps o).1 + (Pj ps o).2 - (Pj ps cs.length).1) := by simpa using c2
  have ac : a ≠ c := fun z => ap.no a am (z ▸ c1)
  have st : (Pj ps cs.length).1 ≠ (Pj ps cs.length).2 := fun z => ap.no a am (by rw [← z]; exact am)
  have key : ∀ b', b' ∈ freeF ps cs M (Pj ps cs.length).2 → ∃ k, k < cs.length ∧ Cj cs k = b' ∧ On (Pj ps k) (Pj ps cs.length).1 ∧ (Pj ps k).1 ≠ (Pj ps k).2 ∧ HasL ps cs ((Pj ps k).1 + (Pj ps k).2 - (Pj ps cs.length).1) a ∧ Rn cs.length (Pj ps) (Cj cs) ((Pj ps cs.length).2, a, b') ((Pj ps cs.length).1, a, b') := fun b' hb' => by
    obtain ⟨ne, nb, na, r, en, c, ce⟩ := chn_at g ap am hb'
    have := all a am b' hb'
    rw [ce] at this
    simp only at this
    subst this
    exact c.back g.prp ne st na
  obtain ⟨o1, o2, o3⟩ := by_some ho
  obtain ⟨k, k1, k2, k3, k4, k5, k6⟩ := key b bm
  have ok : o = k := g.prp.one o1 k1 (by rw [o2, k2]) o3 k3
  subst ok
  obtain ⟨oz, ozs⟩ := other_end k3 k4
  obtain ⟨a0, a1, na⟩ := free_mem.mp am
  obtain ⟨b0, b1, nb⟩ := free_mem.mp bm
  obtain ⟨c0, c1', nct⟩ := free_mem.mp c1
  have ncz := (free_mem.mp c2').2.2
  have ab : a ≠ b := fun z => na (z ▸ ⟨o, o1, o2, o3⟩)
  have cb : c ≠ b := fun z => ncz (z ▸ ⟨o, o1, o2, oz⟩)
  -- the chain from beyond does not end at the first tie
  have hen : e ≠ some (Pj ps cs.length).1 := fun z => by
    obtain ⟨x, y, g1, g2, g3⟩ := ch.run z
    have fin : Rn cs.length (Pj ps) (Cj cs) ((Pj ps o).1 + (Pj ps o).2 - (Pj ps cs.length).1, a, c) ((Pj ps cs.length).1, a, c) := by
      rcases g3 with ⟨rfl, rfl⟩ | ⟨rfl, rfl⟩
      · exact g1
      · rcases g1.last with z | ⟨u, q1, q2⟩
        · simp only [Prod.mk.injEq] at z
          exact absurd z.1 ozs
        · obtain ⟨l, l1, l2, l3, l4, l5⟩ := q2
          simp only [Prod.mk.injEq] at l5
          exact absurd ⟨l, l1, by rw [l2, ← l5.2.2], by rw [l5.1]; exact (other_end l3 l4).1⟩ na
    obtain ⟨_, _, _, _, _, _, k6'⟩ := key c c1
    have := Rn.inj g.prp fin k6' (no_pre ncz) (no_pre nct)
    simp only [Prod.mk.injEq] at this
    exact nb ⟨o, o1, o2, this.1 ▸ oz⟩
  have g2 := g.ex ch ac ncz ⟨a0, a1⟩ ⟨c0, c1'⟩
  have l2 := ex_len (cs := cs) r a c
  have nsa : ¬ HasL ps (exF cs r a c) (Pj ps cs.length).1 a := by rw [has_ex]; exact ch.keeps ac na hen
  have nza : ¬ HasL ps (exF cs r a c) ((Pj ps o).1 + (Pj ps o).2 - (Pj ps cs.length).1) a := by rw [has_ex]; exact ch.frees g.prp ncz
  obtain ⟨_, f2, _⟩ := ch.flip0 g.prp ac ncz
  -- what has b stays
  have stay : ∀ j, j < cs.length → (Cj (exF cs r a c) j = b ↔ Cj cs j = b) := fun j hj => by
    rw [ex_at hj]
    unfold flp
    by_cases d : j ∈ r
    · rw [if_pos d]
      rcases (f2 j d).2 with z | z <;> omega
    · rw [if_neg d]
  have l3 : ((exF cs r a c).set o a).length = cs.length := by rw [List.length_set, l2]
  have at3 : ∀ j, Cj ((exF cs r a c).set o a) j = if j = o then a else Cj (exF cs r a c) j := fun j => set_at (by rw [l2]; exact o1)
  have free3 : ∀ j, j < cs.length → j ≠ o → Cj (exF cs r a c) j = a → ∀ v, On (Pj ps o) v → ¬ On (Pj ps j) v := fun j hj jo ej v ov jv => by
    rcases end_of o3 ov with z | z
    · subst z; exact nsa ⟨j, by rw [l2]; exact hj, ej, jv⟩
    · subst z; exact nza ⟨j, by rw [l2]; exact hj, ej, jv⟩
  have g3 : Good ps ((exF cs r a c).set o a) M := by
    refine good_of (by rw [l3]; exact g.len) ?_ ?_
    · show Prp ((exF cs r a c).set o a).length _ _
      rw [l3]
      intro i j hi hj ij eij v iv jv
      rw [at3, at3] at eij
      by_cases ci : i = o
      · subst ci
        rw [if_pos rfl, if_neg (fun z => ij z.symm)] at eij
        exact free3 j hj (fun z => ij z.symm) eij.symm v iv jv
      · rw [if_neg ci] at eij
        by_cases cj : j = o
        · subst cj
          rw [if_pos rfl] at eij
          exact free3 i hi ci eij v jv iv
        · rw [if_neg cj] at eij
          exact g2.prp i j (by rw [l2]; exact hi) (by rw [l2]; exact hj) ij eij v iv jv
    · intro j hj
      rw [l3] at hj
      rw [at3]
      split
      · exact ⟨a0, a1⟩
      · exact g2.at (by rw [l2]; exact hj)
  have nob : ∀ v, (∀ j, j < cs.length → Cj cs j = b → On (Pj ps j) v → j = o) → ¬ HasL ps ((exF cs r a c).set o a) v b := fun v hv => by
    rintro ⟨j, j1, j2, j3⟩
    rw [l3] at j1
    rw [at3] at j2
    by_cases cj : j = o
    · rw [if_pos cj] at j2; exact ab j2
    · rw [if_neg cj] at j2
      exact cj (hv j j1 ((stay j j1).mp j2) j3)
  unfold rndF
  refine ⟨g3.snoc (by rw [l3]; exact hl) ?_ ?_ b0 b1, by simp [l3]⟩
  · rw [l3]
    exact nob _ fun j j1 j2 j3 => g.prp.one j1 o1 (by rw [j2, o2]) j3 o3
  · rw [l3]
    exact nob _ fun j j1 j2 j3 => absurd ⟨j, j1, j2, j3⟩ nb
theorem put_good {k L : Nat} (g : Good ps cs M) (hk : cs.length = k) (hl : k < ps.length) (hM : M = 3 * L / 2) (hL : ∀ v, deg ps.length (Pj ps) v ≤ L) : Good ps (putF ps M cs k) M ∧ (putF ps M cs k).length = k + 1 := by
  cases h : directF ps M cs k with
  | some cs' => rw [putF_direct h]; exact direct_good g hk hl h
  | none =>
    obtain ⟨b, a, c, o, r, e, x⟩ := rnd_ex g hk hl hM hL h
    rw [putF_rnd g.prp h x]
    exact rnd_good (L := L) g hk hl h x
theorem cross_good {L : Nat} (hM : M = 3 * L / 2) (hL : ∀ v, deg ps.length (Pj ps) v ≤ L) : ∀ k, k ≤ ps.length → Good ps (crossF ps M k) M ∧ (crossF ps M k).length = k
  | 0, _ => ⟨Good.nil, rfl⟩
  | k + 1, h => by
    obtain ⟨g, l⟩ := cross_good hM hL k (by omega)
    exact put_good g l (by omega) hM hL
/-- the load -/
def IsLoad (ps : List (Int × Int)) (L : Nat) : Prop := (∀ v, deg ps.length (Pj ps) v ≤ L) ∧ (L = 0 ∨ ∃ v, deg ps.length (Pj ps) v = L)
theorem IsLoad.one {L L' : Nat} (a : IsLoad ps L) (b : IsLoad ps L') : L = L' := by
  obtain ⟨a1, a2⟩ := a
  obtain ⟨b1, b2⟩ := b
  rcases a2 with rfl | ⟨v, rfl⟩
  · rcases b2 with rfl | ⟨w, rfl⟩
    · rfl
    · have := a1 w; omega
  · rcases b2 with rfl | ⟨w, rfl⟩
    · have := b1 v; omega
    · have := a1 w; have := b1 v; omega
end


/-- the places of a Meeting -/
structure Mt where
  a : Addr
  dx : Addr
  pr : Addr
  wn : Addr
abbrev mtF (m : Mt) (M : Nat) : List (Str × V) := [(Str.ofString "pairs", .ref m.pr), (Str.ofString "most", .int M), (Str.ofString "worn", .ref m.wn)]
def wornL (cs : List Int) : List (Key × V) := (List.range cs.length).map fun j => (.inl ((j : Nat) : Int), .int (Cj cs j))
structure MtAt (K : PySem.W.Frag) (A : Ad) (H : Hp) (m : Mt) (ps : List (Int × Int)) (M : Nat) (cs : List Int) : Prop where
  ins : H m.a = some (.ins A.c_Meeting m.dx (mtF m M))
  prs : ∃ ys, H m.pr = some (.lst ys) ∧ DpAll K (hid [m.wn] H) ys (ps.map dPair)
  wrn : H m.wn = some (.dK (wornL cs))
theorem MtAt.same {H H' : Hp} {m : Mt} {ps : List (Int × Int)} {M : Nat} {cs : List Int} (h : MtAt K A H m ps M cs) (s : Same H H') : MtAt K A H' m ps M cs := by
  obtain ⟨h1, ⟨ys, h2, h3⟩, h4⟩ := h
  exact ⟨s _ _ h1, ⟨ys, s _ _ h2, dpa_same (hid_mono s) h3⟩, s _ _ h4⟩
/-- its hues are changed -/
theorem MtAt.put {H H' : Hp} {m : Mt} {ps : List (Int × Int)} {M : Nat} {cs cs' : List Int} (h : MtAt K A H m ps M cs) (s : Same (hid [m.wn] H) (hid [m.wn] H')) (e : H' m.wn = some (.dK (wornL cs'))) : MtAt K A H' m ps M cs' := by
  obtain ⟨h1, ⟨ys, h2, h3⟩, h4⟩ := h
  have n1 : m.a ∉ [m.wn] := fun z => by rw [List.mem_singleton.mp z, h4] at h1; cases h1
  have n2 : m.pr ∉ [m.wn] := fun z => by rw [List.mem_singleton.mp z, h4] at h2; cases h2
  exact ⟨keeps s h1 n1, ⟨ys, keeps s h2 n2, dpa_same s h3⟩, e⟩
theorem worn_get {cs : List Int} {k : Nat} (h : k < cs.length) : (wornL cs)[k]? = some (.inl ((k : Nat) : Int), .int (Cj cs k)) := by
  unfold wornL
  rw [List.getElem?_map, List.getElem?_range h]; rfl
theorem worn_len (cs : List Int) : (wornL cs).length = cs.length := by unfold wornL; simp
theorem valV_range {n : Nat} {f : Nat → V} {k : Nat} : valV ((List.range n).map fun j => ((.inl ((j : Nat) : Int) : Key), f j)) (.inl ((k : Nat) : Int)) = if k < n then some (f k) else none := by
  induction n with
  | zero => simp [valV_nil]
  | succ n ih =>
    rw [List.range_succ, List.map_append, List.map_singleton]
    by_cases c : k < n
    · have h1 : (valV ((List.range n).map fun j => ((.inl ((j : Nat) : Int) : Key), f j)) (.inl ((k : Nat) : Int))) = some (f k) := by rw [ih, if_pos c]
      rw [if_pos (by omega)]
      unfold valV at h1 ⊢
      rw [List.find?_append]
      obtain ⟨kv, h2, h3⟩ := Option.map_eq_some_iff.mp h1
      rw [h2]
      simpa using h3
    · have h1 : (valV ((List.range n).map fun j => ((.inl ((j : Nat) : Int) : Key), f j)) (.inl ((n : Nat) : Int))) = none := by
        unfold valV
        rw [Option.map_eq_none_iff, List.find?_eq_none]
        intro x hx
        obtain ⟨j, hj, rfl⟩ := List.mem_map.mp hx
        have := List.mem_range.mp hj
        simp; omega
      rw [valV_snoc _ _ _ _ h1, ih, if_neg c]
      by_cases d : k = n
      · subst d; simp
      · rw [if_neg (by simp; omega), if_neg (by omega)]
theorem worn_val {cs : List Int} {k : Nat} (h : k < cs.length) : valV (wornL cs) (.inl ((k : Nat) : Int)) = some (.int (Cj cs k)) := by
  unfold wornL
  rw [valV_range, if_pos h]
theorem worn_new {cs : List Int} {x : Int} : putK (wornL cs) (.inl ((cs.length : Nat) : Int)) (.int x) = wornL (cs ++ [x]) := by
  have h1 : valV (wornL cs) (.inl ((cs.length : Nat) : Int)) = none := by
    unfold wornL
    rw [valV_range, if_neg (by omega)]
  unfold putK
  rw [valV_any, h1, if_neg (by simp)]
  unfold wornL
  rw [List.length_append, List.length_singleton, List.range_succ, List.map_append, List.map_singleton]
  congr 1
  · refine List.map_congr_left fun j hj => ?_
    rw [snoc_at (List.mem_range.mp hj)]
  · rw [snoc_last]
theorem worn_set {cs : List Int} {k : Nat} {x : Int} (h : k < cs.length) : putK (wornL cs) (.inl ((k : Nat) : Int)) (.int x) = wornL (cs.set k x) := by
  have h1 := worn_val h
  unfold putK
  rw [valV_any, h1, if_pos (by simp)]
  unfold wornL
  rw [List.length_set, List.map_map]
  refine List.map_congr_left fun j hj => ?_
  simp only [Function.comp]
  rw [set_at h]
  by_cases c : j = k
  · subst c; simp
  · rw [if_neg (by simp; omega), if_neg c]
theorem k_neNI {H : Hp} {Q : VK} {i : Int} (h : Q (.bl true) H) : rNe .non (.int i) H Q := ⟨rfl, h⟩
def optN : Option Nat → V
  | some k => .int ((k : Nat) : Int)
  | none => .non
def optI : Option Int → V
  | some i => .int i
  | none => .non
theorem by_upto {ps : List (Int × Int)} {cs : List Int} {v h : Int} {k : Nat} (hk : k < cs.length) (h0 : ∀ j, j < k → ¬ (Cj cs j = h ∧ On (Pj ps j) v)) (h1 : Cj cs k = h ∧ On (Pj ps k) v) : byF ps cs v h = some k := by
  unfold byF
  rw [List.find?_eq_some_iff_getElem]
  refine ⟨by simp only [Bool.and_eq_true, decide_eq_true_eq]; exact h1, k, by simpa using hk, by simp, fun j hj => ?_⟩
  have := h0 j hj
  simp only [List.getElem_range, Bool.not_eq_true', Bool.and_eq_false_iff, decide_eq_false_iff_not]
  by_cases c : Cj cs j = h
  · exact .inr fun z => this ⟨c, z⟩
  · exact .inl c
theorem by_all {ps : List (Int × Int)} {cs : List Int} {v h : Int} (h0 : ∀ j, j < cs.length → ¬ (Cj cs j = h ∧ On (Pj ps j) v)) : byF ps cs v h = none := by
  cases e : byF ps cs v h with
  | none => rfl
  | some k => obtain ⟨a, b⟩ := by_some e; exact absurd b (h0 k a)
theorem pairs_at {H : Hp} {ps : List (Int × Int)} {ys : List V} {k : Nat} (d : DpAll K H ys (ps.map dPair)) (h : k < ps.length) : ∃ c, ys[k]? = some (.ref c) ∧ SqT K H c [.int (Pj ps k).1, .int (Pj ps k).2] := by
  have e : ps[k]? = some (Pj ps k) := by
    show ps[k]? = some (ps.getD k (0, 0))
    rw [List.getD_eq_getElem?_getD, List.getElem?_eq_getElem h]; rfl
  obtain ⟨v, hv, dv⟩ := dpa_get2 d (i := k) (by rw [List.getElem?_map, e]; rfl)
  obtain ⟨c, rfl, hc⟩ := dp_pair dv
  exact ⟨c, hv, hc⟩


def pr_Meeting_by (K : PySem.W.Frag) (A : Ad) (v0 v1 v2 : V) (H : Hp) (Q : VK) (_ : XK) : Prop := ∃ (m : Mt) (ps : List (Int × Int)) (M : Nat) (cs : List Int) (v h : Int), v0 = .ref m.a ∧ v1 = .int v ∧ v2 = .int h ∧ MtAt K A H m ps M cs ∧ cs.length ≤ ps.length ∧ Q (optN (byF ps cs v h)) H
def t_Meeting_by (K : PySem.W.Frag) (A : Ad) : TS :=
  (tSeq (tLock (tFor (iKeys (tFld K (tVar 0) "worn")) (gName 3)
      (tIfS (tAnd (tTest (tOp rEq (tDGet (tFld K (tVar 0) "worn") (tVar 3)) (tVar 2))) (tTest (tOp (rIn K false) (tVar 1) (tOp (rIxL K) (tFld K (tVar 0) "pairs") (tVar 3))))) (tRet (tVar 3)) tNext)))
    (tRet (tC .non)))
theorem pure_Meeting_by (T : Txt K mg A) {v0 v1 v2 : V} {H : Hp} {Q : VK} {E : XK} (hh : pr_Meeting_by K A v0 v1 v2 H Q E) : t_Meeting_by K A ⟨fun _ H' => Q .non H', Q, fun _ _ => False, fun _ _ => False⟩ [some v0, some v1, some v2, none] H := by
  obtain ⟨m, ps, M, cs, v, h, rfl, rfl, rfl, ma, lc, q⟩ := hh
  obtain ⟨ins, ⟨ys, eps, dys⟩, wrn⟩ := ma
  have n1 : m.a ≠ m.wn := fun z => by rw [z, wrn] at ins; cases ins
  have n2 : m.pr ≠ m.wn := fun z => by rw [z, wrn] at eps; cases eps
  unfold t_Meeting_by
  refine k_seq (forD wrn (fun i σ => (∀ j, j < i → ¬ (Cj cs j = h ∧ On (Pj ps j) v)) ∧ ∃ k3, σ = [some (.ref m.a), some (.int v), some (.int h), k3]) ⟨(fun j z => by omega), _, rfl⟩ ?_ ?_ ?_)
  · intro R od r
    wtm_at "s"
    refine k_gF (by rw [upd_ne n1]; exact ins) T.K_Meeting T.N_Meeting_worn rfl ?_
    exact r
  · rintro od i k w σ hkv ⟨h0, k3, rfl⟩ N B C rt hN hrt
    have hi : i < cs.length := by have := (List.getElem?_eq_some_iff.mp hkv).1; rwa [worn_len] at this
    rw [worn_get hi] at hkv
    cases hkv
    obtain ⟨c, hc, hc'⟩ := pairs_at dys (show i < ps.length by omega)
    have insF : upd H m.wn (.frz od (.dK (wornL cs))) m.a = some (.ins A.c_Meeting m.dx (mtF m M)) := by rw [upd_ne n1]; exact ins
    have epsF : upd H m.wn (.frz od (.dK (wornL cs))) m.pr = some (.lst ys) := by rw [upd_ne n2]; exact eps
    have hcF : SqT K (upd H m.wn (.frz od (.dK (wornL cs)))) c [.int (Pj ps i).1, .int (Pj ps i).2] := same_seqT (fun b o hb => by
      obtain ⟨z1, z2⟩ := hid_some hb
      rw [upd_ne (fun z => z1 (by rw [z]; simp))]; exact z2) hc'
    have fz : upd H m.wn (.frz od (.dK (wornL cs))) m.wn = some (.frz od (.dK (wornL cs))) := upd_same
    show gName 3 (.int (i : Int)) _ _ _
    generalize upd H m.wn (.frz od (.dK (wornL cs))) = HF at *
    wtm_at "s"
    refine k_gF insF T.K_Meeting T.N_Meeting_worn rfl ?_
    wtm_at "s"
    refine k_gD1 (.inr ⟨_, fz⟩) (worn_val hi) ?_
    wtm_at "s"
    refine k_it (fun c1 => ?_) (fun c1 => ?_)
    · wtm_at "s"
      refine k_gF insF T.K_Meeting T.N_Meeting_pairs rfl ?_
      wtm_at "s"
      refine k_ixL (sl epsF) (atI_nat hc) ?_
      refine k_inT2 hcF ?_
      wtm_at "s"
      refine k_it (fun c2 => ?_) (fun c2 => ?_)
      · wtm_at "s"
        refine hrt _ ?_
        have e := by_upto (ps := ps) (v := v) hi h0 ⟨c1, by unfold On; omega⟩
        rw [e] at q
        exact q
      · wtm_at "s"
        refine hN _ ⟨fun j hj => ?_, _, rfl⟩
        by_cases e : j = i
        · subst e; exact fun z => c2 (by have := z.2; unfold On at this; omega)
        · exact h0 j (by omega)
    · wtm_at "s"
      refine hN _ ⟨fun j hj => ?_, _, rfl⟩
      by_cases e : j = i
      · subst e; exact fun z => c1 z.1
      · exact h0 j (by omega)
  · rintro σ ⟨h0, k3, rfl⟩
    rw [worn_len] at h0
    rw [by_all h0] at q
    wtm_at "s"
    exact q
abbrev sp_Meeting_by (K : PySem.W.Frag) (A : Ad) : Sp := fun vs H Q E => ∃ v0 v1 v2, vs = [v0, v1, v2] ∧ pr_Meeting_by K A v0 v1 v2 H Q E
theorem ok_Meeting_by (T : Txt K mg A) : FnOk P w K mg base CX0 1 A.a_Meeting_by A.d_Meeting_by ["self", "tie", "hue"] (sp_Meeting_by K A) := by
  refine T.F_Meeting_by.ok sc_Meeting_by (fun vs H Q E h => by obtain ⟨v0, v1, v2, rfl, _⟩ := h; rfl) (fun cdv A0 outer s H vs Q E hr h => ?_)
  obtain ⟨v0, v1, v2, rfl, h⟩ := h
  exact ⟨t_Meeting_by K A, (pss_cons (ps_lock (ps_for PassesOwn.never rfl (pi_keys (pe_fld (pv 0) (by rfl))) (pg_name (i := 3) sc_Meeting_by.nd rfl (Or.inl rfl))
      (pss_one (ps_if (PW.pt (pw_and (pt_cmpR op_eq (pe_dget (Nat.lt_of_le_of_lt (Nat.add_le_add_left (by decide) _) hr.units) (pe_fld (pv 0) (by rfl)) (pv 3) (fun _ _ => rfl)) (pv 2) (nomark _)) (pw_and1 (pt_cmpR op_in_seq (pv 1) (pe_ix ix_list (pe_fld (pv 0) (by rfl)) (pv 3) (fun _ _ => rfl)) (by rfl))))) (pss_one (ps_ret (pv 3))) pss_nil))))
      (pss_one (ps_ret pe_non))), pure_Meeting_by T h⟩
def pr_Meeting_free (K : PySem.W.Frag) (A : Ad) (v0 v1 : V) (H : Hp) (Q : VK) (_ : XK) : Prop := ∃ (m : Mt) (ps : List (Int × Int)) (M : Nat) (cs : List Int) (v : Int), v0 = .ref m.a ∧ v1 = .int v ∧ MtAt K A H m ps M cs ∧ cs.length ≤ ps.length ∧ M ≤ 1000 ∧ ∀ p H', H p = none → Same H H' → H' p = some (.lst ((freeF ps cs M v).map V.int)) → Q (.ref p) H'
def t_Meeting_free (K : PySem.W.Frag) (A : Ad) : TS :=
  (tRet (tLc (iRng1 (tCons (tFld K (tVar 0) "most") tNil)) (gName 2) (tTest (tOp xIsN (tMeth A.c_Meeting "by" (sp_Meeting_by K A) [] E0 (tVar 0) (tCons (tVar 1) (tCons (tVar 2) tNil))) (tC .non))) (tVar 2) [2]))
theorem free_fm (ps : List (Int × Int)) (cs : List Int) (M : Nat) (v : Int) : (List.range M).filterMap (fun i => if (byF ps cs v ((i : Nat) : Int)).isNone = true then some (V.int ((i : Nat) : Int)) else none) = (freeF ps cs M v).map V.int := by
  unfold freeF
  induction (List.range M) with
  | nil => rfl
  | cons a r ih =>
    by_cases c : (byF ps cs v ((a : Nat) : Int)).isNone = true
    · rw [List.filterMap_cons, if_pos c, List.map_cons, List.filter_cons, if_pos c, List.map_cons, ih]
    · rw [List.filterMap_cons, if_neg c, List.map_cons, List.filter_cons, if_neg c]; exact ih
theorem pure_Meeting_free (T : Txt K mg A) {v0 v1 : V} {H : Hp} {Q : VK} {E : XK} (hh : pr_Meeting_free K A v0 v1 H Q E) : t_Meeting_free K A ⟨fun _ H' => Q .non H', Q, fun _ _ => False, fun _ _ => False⟩ [some v0, some v1, none] H := by
  obtain ⟨m, ps, M, cs, v, rfl, rfl, ma, lc, lM, q⟩ := hh
  unfold t_Meeting_free
  wtm_at "s"
  refine k_gF ma.ins T.K_Meeting T.N_Meeting_most rfl ?_
  wtm_at "s"
  refine lc_pureR (by omega) (fun i => if (byF ps cs v ((i : Nat) : Int)).isNone = true then some (V.int ((i : Nat) : Int)) else none) ?_ (fun D H1 nD s1 eD => ?_)
  · intro i H' hi sm R R0 g1 g2
    have ma' := ma.same sm
    rw [Int.zero_add]
    wtm_at "s"
    refine k_mF ma'.ins rfl ?_
    wtm_at "s"
    refine ⟨_, _, _, rfl, m, ps, M, cs, v, _, rfl, rfl, rfl, ma', lc, ?_⟩
    cases e : byF ps cs v ((i : Nat) : Int) with
    | none =>
      rw [e] at g1 g2
      rw [show optN none = V.non from rfl]
      wtm_at "s"
      exact g1 _ (if_pos rfl)
    | some k =>
      rw [e] at g1 g2
      rw [show optN (some k) = V.int ((k : Nat) : Int) from rfl]
      wtm_at "s"
      exact g2 (if_neg (by simp))
  rw [Int.toNat_natCast, free_fm] at eD
  exact q D H1 nD s1 eD
abbrev sp_Meeting_free (K : PySem.W.Frag) (A : Ad) : Sp := fun vs H Q E => ∃ v0 v1, vs = [v0, v1] ∧ pr_Meeting_free K A v0 v1 H Q E
theorem ok_Meeting_free (T : Txt K mg A) : FnOk P w K mg base CX0 2 A.a_Meeting_free A.d_Meeting_free ["self", "tie"] (sp_Meeting_free K A) := by
  refine T.F_Meeting_free.ok sc_Meeting_free (fun vs H Q E h => by obtain ⟨v0, v1, rfl, _⟩ := h; rfl) (fun cdv A0 outer s H vs Q E hr h => ?_)
  obtain ⟨v0, v1, rfl, h⟩ := h
  exact ⟨t_Meeting_free K A, (pss_one (ps_ret (pe_lc (own := [("hue", 2)]) (by rfl) sc_Meeting_free.nd (pi_range1 (by rfl) T.z_range (pa_cons (pe_fld (pv 0) (by rfl)) pa_nil)) (blkOk_by (own := [("hue", 2)]) (N := ["self", "tie", "hue"]) (sc := defScope s_Meeting_free) (by decide +kernel)) (fun _ _ _ _ _ => (pg_name (i := 2) sc_Meeting_free.nd rfl (Or.inl rfl))) (fun _ _ _ _ _ => (pts_one (pt_cmpR op_isN (pe_meth (pv 0) T.K_Meeting T.Me_Meeting_by (ok_Meeting_by T) (hr.mono (by decide)) T.b_Meeting_by .nil pass0 (pa_cons (pv 1) (pa_cons (pv 2) pa_nil))) pe_non (nomark _)))) (fun _ _ _ _ _ => (pv 2))))), pure_Meeting_free T h⟩


def intsN (r : List Nat) : List Int := r.map fun (k : Nat) => (k : Int)
def pr_Meeting_chain (K : PySem.W.Frag) (A : Ad) (v0 v1 v2 v3 : V) (H : Hp) (Q : VK) (_ : XK) : Prop := ∃ (m : Mt) (ps : List (Int × Int)) (M : Nat) (cs : List Int) (v h o : Int) (r : List Nat) (e : Option Int), v0 = .ref m.a ∧ v1 = .int v ∧ v2 = .int h ∧ v3 = .int o ∧ MtAt K A H m ps M cs ∧ cs.length ≤ ps.length ∧ PrpL ps cs ∧ ChnL ps cs v h o r e ∧ r.length ≤ 1000 ∧
  ∀ p q H', H q = none → Same H H' → H' q = some (.lst ((intsN r).map V.int)) → H' p = some (.tup [.ref q, optI e]) → Q (.ref p) H'
def t_Meeting_chain (K : PySem.W.Frag) (A : Ad) : TS :=
  (tSeq (tAsg (tLst tNil) (gName 4))
    (tSeq (tAsg (tMeth A.c_Meeting "by" (sp_Meeting_by K A) [] E0 (tVar 0) (tCons (tVar 1) (tCons (tVar 2) tNil))) (gName 5))
    (tSeq (tWhile (tTest (tOp xNotN (tVar 5) (tC .non)))
      (tSeq (tDrop (tBM K "list" rAppend (tVar 4) (tCons (tVar 5) tNil)))
    (tSeq (tAsg (tOp (rIxL K) (tFld K (tVar 0) "pairs") (tVar 5)) (gTup K 2 (gCons (gName 6) (gCons (gName 7) gNil))))
    (tSeq (tIfS (tTest (tOp rEq (tVar 6) (tVar 7))) (tRet (tTup (tCons (tVar 4) (tCons (tC .non) tNil)))) tNext)
    (tSeq (tAsg (tOp xSub (tOp xAdd (tVar 6) (tVar 7)) (tVar 1)) (gName 1))
    (tSeq (tPar 2 3 (tCons (tVar 3) (tCons (tVar 2) tNil)))
    (tAsg (tMeth A.c_Meeting "by" (sp_Meeting_by K A) [] E0 (tVar 0) (tCons (tVar 1) (tCons (tVar 2) tNil))) (gName 5))))))))
    (tRet (tTup (tCons (tVar 4) (tCons (tVar 1) tNil)))))))
theorem pure_Meeting_chain (T : Txt K mg A) {v0 v1 v2 v3 : V} {H : Hp} {Q : VK} {E : XK} (hh : pr_Meeting_chain K A v0 v1 v2 v3 H Q E) : t_Meeting_chain K A ⟨fun _ H' => Q .non H', Q, fun _ _ => False, fun _ _ => False⟩ [some v0, some v1, some v2, some v3, none, none, none, none] H := by
  obtain ⟨m, ps, M, cs, v, h, o, r, e, rfl, rfl, rfl, rfl, ma, lc, pp, ch, lr, q⟩ := hh
  unfold t_Meeting_chain
  wtm_at "s"
  refine kL (by simp) (fun fo H1 nfo s1 e1 => ?_)
  have m1 := ma.same s1
  wtm_at "s"
  refine k_mF m1.ins rfl ?_
  wtm_at "s"
  refine ⟨_, _, _, rfl, m, ps, M, cs, v, h, rfl, rfl, rfl, m1, lc, ?_⟩
  refine k_gname (k_seq ?_)
  refine whileW (fun n σ' H' => Same H H' ∧ ∃ (v' h' o' : Int) (r0 r1 : List Nat) (k6 k7 : Option V), r0 ++ r1 = r ∧ n = r1.length ∧ ChnL ps cs v' h' o' r1 e ∧ H' fo = some (.lst ((intsN r0).map V.int)) ∧ σ' = [some (.ref m.a), some (.int v'), some (.int h'), some (.int o'), some (.ref fo), some (optN (byF ps cs v' h')), k6, k7]) (m0 := r.length) ⟨s1, v, h, o, [], r, none, none, rfl, rfl, ch, e1, rfl⟩ ?_ ?_
  · rintro n σ' H2 ⟨s2, v', h', o', r0, r1, k6, k7, hr, hn, c, e2, rfl⟩
    have m2 := ma.same s2
    obtain ⟨ys, eps, dys⟩ := m2.prs
    cases eb : byF ps cs v' h' with
    | none =>
      have nh := by_none eb
      rw [show optN none = V.non from rfl]
      wtm_at "s"
      refine kT (by simp) (fun p H3 np s3 e3 => ?_)
      cases c with
      | stop _ =>
        rw [List.append_nil] at hr
        subst hr
        exact q p fo H3 nfo (s2.trans s3) (s3 _ _ e2) e3
      | loop k1 k2 k3 k4 => exact absurd ⟨_, k1, k2, k3⟩ nh
      | step k1 k2 k3 k4 _ => exact absurd ⟨_, k1, k2, k3⟩ nh
    | some k =>
      obtain ⟨b1, b2, b3⟩ := by_some eb
      rw [show optN (some k) = V.int ((k : Nat) : Int) from rfl]
      have l0 : r0.length ≤ 1000 := by have := congrArg List.length hr; simp at this; omega
      wtm_at "s"
      refine k_tyL (sl e2) ?_
      wtm_at "s"
      refine k_append e2 (by unfold intsN; simp; omega) ?_
      have s3 : Same H (upd H2 fo (.lst ((intsN r0).map V.int ++ [.int (k : Int)]))) := same_mut s2 nfo
      have e3 : upd H2 fo (.lst ((intsN r0).map V.int ++ [.int (k : Int)])) fo = some (.lst ((intsN (r0 ++ [k])).map V.int)) := by
        rw [upd_same]; unfold intsN; rw [List.map_append, List.map_append]; rfl
      generalize upd H2 fo (.lst ((intsN r0).map V.int ++ [.int (k : Int)])) = H3 at s3 e3 ⊢
      have m3 := ma.same s3
      obtain ⟨ys, eps, dys⟩ := m3.prs
      obtain ⟨c0, hc, hc'⟩ := pairs_at dys (show k < ps.length by omega)
      have hc3 := same_seqT (hid_same _ _) hc'
      wtm_at "s"
      refine k_gF m3.ins T.K_Meeting T.N_Meeting_pairs rfl ?_
      wtm_at "s"
      refine k_ixL (sl eps) (atI_nat hc) ?_
      wtm_at "s"
      refine k_it (fun c1 => ?_) (fun c1 => ?_)
      · wtm_at "s"
        refine kT (by simp) (fun p H4 np s4 e4 => ?_)
        cases c with
        | stop z => exact absurd ⟨_, b1, b2, b3⟩ z
        | loop k1 k2 k3 k4 =>
          have := pp.one b1 k1 (by rw [b2, k2]) b3 k3
          subst this
          subst hr
          exact q p fo H4 nfo (s3.trans s4) (s4 _ _ e3) e4
        | step k1 k2 k3 k4 _ =>
          have := pp.one b1 k1 (by rw [b2, k2]) b3 k3
          subst this
          exact absurd c1 k4
      · wtm_at "s"
        refine k_mF m3.ins rfl ?_
        wtm_at "s"
        refine ⟨_, _, _, rfl, m, ps, M, cs, _, _, rfl, rfl, rfl, m3, lc, ?_⟩
        cases c with
        | stop z => exact absurd ⟨_, b1, b2, b3⟩ z
        | loop k1 k2 k3 k4 =>
          have := pp.one b1 k1 (by rw [b2, k2]) b3 k3
          subst this
          exact absurd k4 c1
        | @step _ _ _ _ r2 _ k1 k2 k3 k4 g =>
          have := pp.one b1 k1 (by rw [b2, k2]) b3 k3
          subst this
          wtm_at "s"
          exact ⟨r2.length, by rw [hn]; simp, s3, _, _, _, r0 ++ [k], r2, _, _, by rw [List.append_assoc]; exact hr, rfl, g, e3, rfl⟩
  · intro σ H Q Q' hQ hc
    obtain ⟨x, h1, h2, k, z1, z2⟩ := hc
    exact ⟨x, h1, h2, k, z1, hQ _ _ z2⟩
abbrev sp_Meeting_chain (K : PySem.W.Frag) (A : Ad) : Sp := fun vs H Q E => ∃ v0 v1 v2 v3, vs = [v0, v1, v2, v3] ∧ pr_Meeting_chain K A v0 v1 v2 v3 H Q E
theorem ok_Meeting_chain (T : Txt K mg A) : FnOk P w K mg base CX0 2 A.a_Meeting_chain A.d_Meeting_chain ["self", "tie", "hue", "other"] (sp_Meeting_chain K A) := by
  refine T.F_Meeting_chain.ok sc_Meeting_chain (fun vs H Q E h => by obtain ⟨v0, v1, v2, v3, rfl, _⟩ := h; rfl) (fun cdv A0 outer s H vs Q E hr h => ?_)
  obtain ⟨v0, v1, v2, v3, rfl, h⟩ := h
  exact ⟨t_Meeting_chain K A, (pss_cons (ps_set (i := 4) sc_Meeting_chain.nd rfl (Or.inl rfl) (pe_lst pa_nil))
      (pss_cons (ps_set (i := 5) sc_Meeting_chain.nd rfl (Or.inl rfl) (pe_meth (pv 0) T.K_Meeting T.Me_Meeting_by (ok_Meeting_by T) (hr.mono (by decide)) T.b_Meeting_by .nil pass0 (pa_cons (pv 1) (pa_cons (pv 2) pa_nil))))
      (pss_cons (ps_while PassesOwn.never (pt_cmpR op_notN (pv 5) pe_non (nomark _))
      (pss_cons (ps_expr (pe_bm PySem.F.plainAttrs_list PySem.F.slot_list_append PySem.F.type_list_append mt_append (pv 4) (pa_cons (pv 5) pa_nil)))
      (pss_cons (ps_asg (pe_ix ix_list (pe_fld (pv 0) (by rfl)) (pv 5) (fun _ _ => rfl)) (pg_tup (by rfl) (pgs_cons (pg_name (i := 6) sc_Meeting_chain.nd rfl (Or.inl rfl)) (pgs_cons (pg_name (i := 7) sc_Meeting_chain.nd rfl (Or.inl rfl)) pgs_nil))))
      (pss_cons (ps_if (pt_cmpR op_eq (pv 6) (pv 7) (nomark _)) (pss_one (ps_ret (pe_tup (pa_cons (pv 4) (pa_cons pe_non pa_nil))))) pss_nil)
      (pss_cons (ps_set (i := 1) sc_Meeting_chain.nd rfl (Or.inl rfl) (pe_op op_sub (pe_op op_add (pv 6) (pv 7)) (pv 1)))
      (pss_cons (ps_par (by rfl) sc_Meeting_chain.nd rfl rfl (by decide) rfl rfl (pa_cons (pv 3) (pa_cons (pv 2) pa_nil)) (by rfl))
      (pss_one (ps_set (i := 5) sc_Meeting_chain.nd rfl (Or.inl rfl) (pe_meth (pv 0) T.K_Meeting T.Me_Meeting_by (ok_Meeting_by T) (hr.mono (by decide)) T.b_Meeting_by .nil pass0 (pa_cons (pv 1) (pa_cons (pv 2) pa_nil)))))))))))
      (pss_one (ps_ret (pe_tup (pa_cons (pv 4) (pa_cons (pv 1) pa_nil)))))))), pure_Meeting_chain T h⟩
theorem ex_nil (cs : List Int) (h o : Int) : exF cs [] h o = cs := by
  unfold exF
  refine List.ext_getElem? fun j => ?_
  rw [List.getElem?_map]
  by_cases c : j < cs.length
  · rw [List.getElem?_range c, List.getElem?_eq_getElem c]
    show some (flp [] h o (Cj cs) j) = _
    unfold flp
    rw [if_neg (by simp)]
    show some (cs.getD j 0) = _
    rw [List.getD_eq_getElem?_getD, List.getElem?_eq_getElem c]; rfl
  · rw [List.getElem?_eq_none (by simpa using c), List.getElem?_eq_none (by simpa using c)]; rfl
theorem ex_snoc {cs : List Int} {r : List Nat} {h o : Int} {k : Nat} (hk : k < cs.length) (nk : k ∉ r) : (exF cs r h o).set k (h + o - Cj (exF cs r h o) k) = exF cs (r ++ [k]) h o := by
  refine List.ext_getElem? fun j => ?_
  rw [List.getElem?_set, ex_len, ex_at hk]
  unfold exF
  by_cases c : k = j
  · subst c
    rw [if_pos rfl, if_pos hk, List.getElem?_map, List.getElem?_range hk]
    show some _ = some (flp (r ++ [k]) h o (Cj cs) k)
    rw [flp_snoc, if_pos rfl]
    unfold flp
    rw [if_neg nk]
  · rw [if_neg c, List.getElem?_map, List.getElem?_map]
    by_cases d : j < cs.length
    · rw [List.getElem?_range d]
      show some _ = some (flp (r ++ [k]) h o (Cj cs) j)
      rw [flp_snoc, if_neg (fun z => c z.symm)]
    · rw [List.getElem?_eq_none (by simpa using d)]; rfl
def pr_Meeting_exchange (K : PySem.W.Frag) (A : Ad) (v0 v1 v2 v3 : V) (H : Hp) (Q : VK) (_ : XK) : Prop := ∃ (m : Mt) (ps : List (Int × Int)) (M : Nat) (cs : List Int) (h o : Int) (r : List Nat) (q : Addr), v0 = .ref m.a ∧ v1 = .ref q ∧ v2 = .int h ∧ v3 = .int o ∧ MtAt K A H m ps M cs ∧ H q = some (.lst ((intsN r).map V.int)) ∧ r.Nodup ∧ (∀ k ∈ r, k < cs.length) ∧ r.length ≤ 1000 ∧ cs.length ≤ 1000 ∧
  ∀ H', Same (hid [m.wn] H) (hid [m.wn] H') → H' m.wn = some (.dK (wornL (exF cs r h o))) → Q .non H'
def t_Meeting_exchange (K : PySem.W.Frag) (A : Ad) : TS :=
  (tFor (iList K (tVar 1)) (gName 4)
      (sDPut (tFld K (tVar 0) "worn") (tVar 4) (tOp xSub (tOp xAdd (tVar 2) (tVar 3)) (tDGet (tFld K (tVar 0) "worn") (tVar 4)))))
theorem pure_Meeting_exchange (T : Txt K mg A) {v0 v1 v2 v3 : V} {H : Hp} {Q : VK} {E : XK} (hh : pr_Meeting_exchange K A v0 v1 v2 v3 H Q E) : t_Meeting_exchange K A ⟨fun _ H' => Q .non H', Q, fun _ _ => False, fun _ _ => False⟩ [some v0, some v1, some v2, some v3, none] H := by
  obtain ⟨m, ps, M, cs, h, o, r, qa, rfl, rfl, rfl, rfl, ma, eq, nd, hr, lr, lcs, q⟩ := hh
  have nq : qa ∉ [m.wn] := fun z => by rw [List.mem_singleton.mp z, ma.wrn] at eq; cases eq
  unfold t_Meeting_exchange
  wtm_at "s"
  refine forL (sl eq) (fun i σ' H' => Same (hid [m.wn] H) (hid [m.wn] H') ∧ H' m.wn = some (.dK (wornL (exF cs (r.take i) h o))) ∧ ∃ k4, σ' = [some (.ref m.a), some (.ref qa), some (.int h), some (.int o), k4]) ⟨Same.refl _, by rw [List.take_zero, ex_nil]; exact ma.wrn, _, rfl⟩ (fun i σ' H' _ z => sl (keeps z.1 eq nq)) ?_ ?_
  · rintro i x σ' H1 hx ⟨S1, e1, k4, rfl⟩
    have hi : i < r.length := by have := (List.getElem?_eq_some_iff.mp hx).1; simpa [intsN] using this
    have hx' : x = .int ((r[i] : Nat) : Int) := by
      unfold intsN at hx
      rw [List.getElem?_map, List.getElem?_map, List.getElem?_eq_getElem hi] at hx
      exact (Option.some.inj hx).symm
    subst hx'
    have kl := hr r[i] (List.getElem_mem hi)
    have nk : r[i] ∉ r.take i := fun z => by
      obtain ⟨j, hj, e⟩ := List.mem_iff_getElem.mp z
      have hj' : j < i := by simp at hj; omega
      rw [List.getElem_take] at e
      exact List.pairwise_iff_getElem.mp nd j i (by omega) hi hj' e
    have m1 := ma.put S1 e1
    have tk : r.take (i + 1) = r.take i ++ [r[i]] := by rw [List.take_add_one, List.getElem?_eq_getElem hi]; rfl
    wtm_at "s"
    refine k_gF m1.ins T.K_Meeting T.N_Meeting_worn rfl ?_
    wtm_at "s"
    refine k_gD1 (.inl e1) (worn_val (by rw [ex_len]; exact kl)) ?_
    wtm_at "s"
    refine k_gF m1.ins T.K_Meeting T.N_Meeting_worn rfl ?_
    wtm_at "s"
    refine k_pD e1 (by rw [worn_len, ex_len]; omega) ?_
    rw [worn_set (by rw [ex_len]; exact kl), ex_snoc kl nk, ← tk]
    exact ⟨same_hid_upd S1 (by simp), upd_same, _, rfl⟩
  · rintro σ' H1 ⟨S1, e1, k4, rfl⟩
    rw [List.take_of_length_le (by simp [intsN])] at e1
    exact q H1 S1 e1
abbrev sp_Meeting_exchange (K : PySem.W.Frag) (A : Ad) : Sp := fun vs H Q E => ∃ v0 v1 v2 v3, vs = [v0, v1, v2, v3] ∧ pr_Meeting_exchange K A v0 v1 v2 v3 H Q E
theorem ok_Meeting_exchange (T : Txt K mg A) : FnOk P w K mg base CX0 1 A.a_Meeting_exchange A.d_Meeting_exchange ["self", "some", "hue", "other"] (sp_Meeting_exchange K A) := by
  refine T.F_Meeting_exchange.ok sc_Meeting_exchange (fun vs H Q E h => by obtain ⟨v0, v1, v2, v3, rfl, _⟩ := h; rfl) (fun cdv A0 outer s H vs Q E hr h => ?_)
  obtain ⟨v0, v1, v2, v3, rfl, h⟩ := h
  exact ⟨t_Meeting_exchange K A, (pss_one (ps_for PassesOwn.never rfl (pi_list (pv 1)) (pg_name (i := 4) sc_Meeting_exchange.nd rfl (Or.inl rfl))
      (pss_one (ps_dput (Nat.lt_of_le_of_lt (Nat.add_le_add_left (by decide) _) hr.units) (pe_fld (pv 0) (by rfl)) (pv 4) (pe_op op_sub (pe_op op_add (pv 2) (pv 3)) (pe_dget (Nat.lt_of_le_of_lt (Nat.add_le_add_left (by decide) _) hr.units) (pe_fld (pv 0) (by rfl)) (pv 4) (fun _ _ => rfl))) (by rfl))))), pure_Meeting_exchange T h⟩


theorem take_find {p : Int → Bool} {l : List Int} {i : Nat} {x : Int} (hx : l[i]? = some x) (h0 : (l.take i).find? p = none) (hp : p x = true) : l.find? p = some x := by
  obtain ⟨hi, e⟩ := List.getElem?_eq_some_iff.mp hx
  rw [← List.take_append_drop i l, List.find?_append, h0, List.drop_eq_getElem_cons hi, e]
  simp [hp]
theorem take_none {p : Int → Bool} {l : List Int} {i : Nat} {x : Int} (hx : l[i]? = some x) (h0 : (l.take i).find? p = none) (hp : p x = false) : (l.take (i + 1)).find? p = none := by
  rw [List.take_add_one, hx, List.find?_append, h0]
  simp [hp]
theorem take_findS {β : Type} {f : Int → Option β} {l : List Int} {i : Nat} {x : Int} {y : β} (hx : l[i]? = some x) (h0 : (l.take i).findSome? f = none) (hp : f x = some y) : l.findSome? f = some y := by
  obtain ⟨hi, e⟩ := List.getElem?_eq_some_iff.mp hx
  rw [← List.take_append_drop i l, List.findSome?_append, h0, List.drop_eq_getElem_cons hi, e]
  simp [hp]
theorem take_noneS {β : Type} {f : Int → Option β} {l : List Int} {i : Nat} {x : Int} (hx : l[i]? = some x) (h0 : (l.take i).findSome? f = none) (hp : f x = none) : (l.take (i + 1)).findSome? f = none := by
  rw [List.take_add_one, hx, List.findSome?_append, h0]
  simp [hp]
theorem ints_get {l : List Int} {i : Nat} {x : V} (h : (l.map V.int)[i]? = some x) : ∃ y, l[i]? = some y ∧ x = .int y := by
  rw [List.getElem?_map] at h
  obtain ⟨y, h1, rfl⟩ := Option.map_eq_some_iff.mp h
  exact ⟨y, h1, rfl⟩
theorem both_fm (l bs : List Int) : l.filterMap (fun x => if x ∈ bs then some (V.int x) else none) = (l.filter fun x => decide (x ∈ bs)).map V.int := by
  induction l with
  | nil => rfl
  | cons a r ih =>
    by_cases c : a ∈ bs
    · rw [List.filterMap_cons, if_pos c, List.filter_cons, if_pos (decide_eq_true c), List.map_cons, ih]
    · rw [List.filterMap_cons, if_neg c, List.filter_cons, if_neg (by simpa using c)]; exact ih
theorem free_len (ps : List (Int × Int)) (cs : List Int) (M : Nat) (v : Int) : (freeF ps cs M v).length ≤ M := by
  unfold freeF
  have := List.length_filter_le (fun h => (byF ps cs v h).isNone) ((List.range M).map fun (i : Nat) => (i : Int))
  simpa using this
theorem chn_len {ps : List (Int × Int)} {cs : List Int} {M : Nat} {v h o : Int} {r : List Nat} {e : Option Int} (g : Good ps cs M) (c : ChnL ps cs v h o r e) (ho : h ≠ o) (no : ¬ HasL ps cs v o) : r.Nodup ∧ (∀ k ∈ r, k < cs.length) ∧ r.length ≤ cs.length := by
  obtain ⟨f1, f2, _⟩ := c.flip0 g.prp ho no
  exact ⟨f1, fun k hk => (f2 k hk).1, nodup_lt f1 fun k hk => (f2 k hk).1⟩
def pr_Meeting_direct (K : PySem.W.Frag) (A : Ad) (v0 v1 : V) (H : Hp) (Q : VK) (_ : XK) : Prop := ∃ (m : Mt) (ps : List (Int × Int)) (M : Nat) (cs : List Int), v0 = .ref m.a ∧ v1 = .int ((cs.length : Nat) : Int) ∧ MtAt K A H m ps M cs ∧ Good ps cs M ∧ cs.length < ps.length ∧ ps.length ≤ 100 ∧ M ≤ 1000 ∧
  (∀ cs' H', directF ps M cs cs.length = some cs' → Same (hid [m.wn] H) (hid [m.wn] H') → H' m.wn = some (.dK (wornL cs')) → Q (.bl true) H') ∧ (directF ps M cs cs.length = none → ∀ H', Same H H' → Q (.bl false) H')
def t_Meeting_direct (K : PySem.W.Frag) (A : Ad) : TS :=
  (tSeq (tAsg (tOp (rIxL K) (tFld K (tVar 0) "pairs") (tVar 1)) (gTup K 2 (gCons (gName 2) (gCons (gName 3) gNil))))
    (tSeq (tAsg (tMeth A.c_Meeting "free" (sp_Meeting_free K A) [] E0 (tVar 0) (tCons (tVar 2) tNil)) (gName 4))
    (tSeq (tAsg (tMeth A.c_Meeting "free" (sp_Meeting_free K A) [] E0 (tVar 0) (tCons (tVar 3) tNil)) (gName 5))
    (tSeq (tAsg (tLc (iList K (tVar 4)) (gName 11) (tTest (tOp (rIn K false) (tVar 11) (tVar 5))) (tVar 11) [11]) (gName 6))
    (tSeq (tIfS (tTest (tOp xGt (tCB (rLenX K) (tCons (tVar 6) tNil)) (tC (.int 0)))) (tSeq (sDPut (tFld K (tVar 0) "worn") (tVar 1) (tOp (rIxL K) (tVar 6) (tC (.int 0))))
    (tRet (tC (.bl true)))) tNext)
    (tSeq (tFor (iList K (tVar 4)) (gName 7)
      (tFor (iList K (tVar 5)) (gName 8)
      (tSeq (tAsg (tMeth A.c_Meeting "chain" (sp_Meeting_chain K A) [] E0 (tVar 0) (tCons (tVar 3) (tCons (tVar 7) (tCons (tVar 8) tNil)))) (gTup K 2 (gCons (gName 9) (gCons (gName 10) gNil))))
    (tIfS (tTest (tOp rNe (tVar 10) (tVar 2))) (tSeq (tDrop (tMeth A.c_Meeting "exchange" (sp_Meeting_exchange K A) [] E0 (tVar 0) (tCons (tVar 9) (tCons (tVar 7) (tCons (tVar 8) tNil)))))
    (tSeq (sDPut (tFld K (tVar 0) "worn") (tVar 1) (tVar 7))
    (tRet (tC (.bl true))))) tNext))))
    (tRet (tC (.bl false)))))))))
theorem pure_Meeting_direct (T : Txt K mg A) {v0 v1 : V} {H : Hp} {Q : VK} {E : XK} (hh : pr_Meeting_direct K A v0 v1 H Q E) : t_Meeting_direct K A ⟨fun _ H' => Q .non H', Q, fun _ _ => False, fun _ _ => False⟩ [some v0, some v1, none, none, none, none, none, none, none, none, none, none] H := by
  obtain ⟨m, ps, M, cs, rfl, rfl, ma, g, lc, lp, lM, q1, q0⟩ := hh
  obtain ⟨ys, eps, dys⟩ := ma.prs
  obtain ⟨c, hc, hc'⟩ := pairs_at dys lc
  have hc0 := same_seqT (hid_same _ _) hc'
  unfold t_Meeting_direct
  wtm_at "s"
  refine k_gF ma.ins T.K_Meeting T.N_Meeting_pairs rfl ?_
  wtm_at "s"
  refine k_ixL (sl eps) (atI_nat hc) ?_
  wtm_at "s"
  refine k_mF ma.ins rfl ?_
  wtm_at "s"
  refine ⟨_, _, rfl, m, ps, M, cs, _, rfl, rfl, ma, by omega, lM, fun p1 H1 np1 s1 e1 => ?_⟩
  have m1 := ma.same s1
  wtm_at "s"
  refine k_mF m1.ins rfl ?_
  wtm_at "s"
  refine ⟨_, _, rfl, m, ps, M, cs, _, rfl, rfl, m1, by omega, lM, fun p2 H2 np2 s2 e2 => ?_⟩
  have m2 := m1.same s2
  have e1' := s2 _ _ e1
  have la := free_len ps cs M (Pj ps cs.length).1
  have lb := free_len ps cs M (Pj ps cs.length).2
  wtm_at "s"
  refine lc_pure (sl e1') (freeF ps cs M (Pj ps cs.length).1) (by simp) (by omega) (fun x => if x ∈ freeF ps cs M (Pj ps cs.length).2 then some (V.int x) else none) ?_ (fun D H3 nD s3 eD => ?_)
  · intro i x y H' hx hy sm R R0 g1 g2
    rw [List.getElem?_map, hy] at hx
    cases hx
    have e2' := sm _ _ e2
    wtm_at "s"
    refine k_it (fun d => ?_) (fun d => ?_)
    · wtm_at "s"
      exact g1 _ (if_pos d)
    · exact g2 (if_neg d)
  rw [both_fm] at eD
  have m3 := m2.same s3
  have e1'' := s3 _ _ e1'
  have e2' := s3 _ _ e2
  have s03 := s1.trans (s2.trans s3)
  have lcz : cs.length ≤ 1000 := by omega
  cases hbo : (freeF ps cs M (Pj ps cs.length).1).filter (fun x => decide (x ∈ freeF ps cs M (Pj ps cs.length).2)) with
  | cons x l =>
    rw [hbo] at eD
    wtm_at "s"
    refine k_it (fun _ => ?_) (fun z => ?_)
    · wtm_at "s"
      refine k_ixI (sl eD) (by decide) (by simp) ?_
      wtm_at "s"
      refine k_gF m3.ins T.K_Meeting T.N_Meeting_worn rfl ?_
      wtm_at "s"
      refine k_pD m3.wrn (by rw [worn_len]; omega) ?_
      rw [worn_new]
      wtm_at "s"
      refine q1 _ _ ?_ (same_hid_upd (hid_mono s03) (by simp)) upd_same
      unfold directF
      rw [hbo]
      rfl
    · exfalso
      simp at z
  | nil =>
    rw [hbo] at eD
    have ap : Apart ps cs M (Pj ps cs.length).1 (Pj ps cs.length).2 := ⟨filter_nil hbo⟩
    wtm_at "s"
    refine forL (sl e1'') (fun i σ' H' => Same H3 H' ∧ ((freeF ps cs M (Pj ps cs.length).1).take i).findSome? (fun a => (tryB ps cs (Pj ps cs.length).1 (Pj ps cs.length).2 a (freeF ps cs M (Pj ps cs.length).2)).map fun b => (a, b)) = none ∧ ∃ k7 k8 k9 k10, σ' = [some (.ref m.a), some (.int ((cs.length : Nat) : Int)), some (.int (Pj ps cs.length).1), some (.int (Pj ps cs.length).2), some (.ref p1), some (.ref p2), some (.ref D), k7, k8, k9, k10, none])
      ⟨Same.refl _, rfl, _, _, _, _, rfl⟩ (fun i σ' H' _ z => z.1.seq (sl e1'')) ?_ ?_
    · rintro i x σ' H4 hx ⟨s4, t4, k7, k8, k9, k10, rfl⟩
      obtain ⟨a, ha, rfl⟩ := ints_get hx
      have am := List.mem_of_getElem? ha
      have e2'' := s4 _ _ e2'
      wtm_at "s"
      refine forL (sl e2'') (fun j σ' H' => Same H3 H' ∧ ((freeF ps cs M (Pj ps cs.length).2).take j).find? (fun b => decide ((chnF ps cs (Pj ps cs.length).2 a b).2 ≠ some (Pj ps cs.length).1)) = none ∧ ∃ k8 k9 k10, σ' = [some (.ref m.a), some (.int ((cs.length : Nat) : Int)), some (.int (Pj ps cs.length).1), some (.int (Pj ps cs.length).2), some (.ref p1), some (.ref p2), some (.ref D), some (.int a), k8, k9, k10, none])
        ⟨s4, rfl, _, _, _, rfl⟩ (fun j σ' H' _ z => z.1.seq (sl e2')) ?_ ?_
      · rintro j x σ' H5 hx ⟨s5, t5, k8, k9, k10, rfl⟩
        obtain ⟨b, hb, rfl⟩ := ints_get hx
        have bm := List.mem_of_getElem? hb
        obtain ⟨ne, nb, na, r, en, ch, ce⟩ := chn_at g ap am bm
        obtain ⟨nd, hr, lr⟩ := chn_len g ch ne nb
        have m5 := m3.same s5
        wtm_at "s"
        refine k_mF m5.ins rfl ?_
        wtm_at "s"
        refine ⟨_, _, _, _, rfl, m, ps, M, cs, _, _, _, r, en, rfl, rfl, rfl, rfl, m5, by omega, g.prp, ch, by omega, fun pp qq H6 nqq s6 eqq epp => ?_⟩
        have m6 := m5.same s6
        have s06 := s03.trans (s5.trans s6)
        wtm_at "s"
        by_cases c1 : en = some (Pj ps cs.length).1
        · subst c1
          refine ⟨rfl, ?_⟩
          rw [show (!decide (optI (some (Pj ps cs.length).1) = V.int (Pj ps cs.length).1)) = false by simp [optI]]
          wtm_at "s"
          refine ⟨s5.trans s6, take_none hb t5 (by rw [ce]; simp), _, _, _, rfl⟩
        · have tb : tryB ps cs (Pj ps cs.length).1 (Pj ps cs.length).2 a (freeF ps cs M (Pj ps cs.length).2) = some b := take_find hb t5 (by rw [ce]; simpa using c1)
          have fl : flatV (optI en) = true := by cases en <;> rfl
          refine ⟨by cases en <;> rfl, ?_⟩
          rw [show (!decide (optI en = V.int (Pj ps cs.length).1)) = true by
            cases en with
            | none => rfl
            | some w =>
              have hw : w ≠ (Pj ps cs.length).1 := fun z => c1 (by rw [z])
              show (!decide (V.int w = V.int (Pj ps cs.length).1)) = true
              rw [decide_eq_false (fun z => hw (V.int.inj z))]; rfl]
          wtm_at "s"
          refine k_mF m6.ins rfl ?_
          wtm_at "s"
          refine ⟨_, _, _, _, rfl, m, ps, M, cs, a, b, r, qq, rfl, rfl, rfl, rfl, m6, eqq, nd, hr, by omega, by omega, fun H7 S7 e7 => ?_⟩
          have m7 := m6.put S7 e7
          have l7 := ex_len (cs := cs) r a b
          wtm_at "s"
          refine k_gF m7.ins T.K_Meeting T.N_Meeting_worn rfl ?_
          wtm_at "s"
          refine k_pD e7 (by rw [worn_len, l7]; omega) ?_
          rw [show ((cs.length : Nat) : Int) = (((exF cs r a b).length : Nat) : Int) by rw [l7], worn_new]
          wtm_at "s"
          refine q1 _ _ ?_ (same_hid_upd ((hid_mono s06).trans S7) (by simp)) upd_same
          unfold directF
          rw [hbo]
          simp only
          have tf : tryF ps cs (Pj ps cs.length).1 (Pj ps cs.length).2 (freeF ps cs M (Pj ps cs.length).1) (freeF ps cs M (Pj ps cs.length).2) = some (a, b) := take_findS ha t4 (by rw [tb]; rfl)
          rw [tf]
          simp only [ce]
      · rintro σ' H5 ⟨s5, t5, k8, k9, k10, rfl⟩
        rw [List.take_of_length_le (by simp)] at t5
        exact ⟨s5, take_noneS ha t4 (by unfold tryB; rw [t5]; rfl), _, _, _, _, rfl⟩
    · rintro σ' H4 ⟨s4, t4, k7, k8, k9, k10, rfl⟩
      rw [List.take_of_length_le (by simp)] at t4
      wtm_at "s"
      refine q0 ?_ _ (s03.trans s4)
      unfold directF
      rw [hbo]
      simp only
      unfold tryF
      rw [t4]
abbrev sp_Meeting_direct (K : PySem.W.Frag) (A : Ad) : Sp := fun vs H Q E => ∃ v0 v1, vs = [v0, v1] ∧ pr_Meeting_direct K A v0 v1 H Q E
theorem ok_Meeting_direct (T : Txt K mg A) : FnOk P w K mg base CX0 3 A.a_Meeting_direct A.d_Meeting_direct ["self", "k"] (sp_Meeting_direct K A) := by
  refine T.F_Meeting_direct.ok sc_Meeting_direct (fun vs H Q E h => by obtain ⟨v0, v1, rfl, _⟩ := h; rfl) (fun cdv A0 outer s H vs Q E hr h => ?_)
  obtain ⟨v0, v1, rfl, h⟩ := h
  exact ⟨t_Meeting_direct K A, (pss_cons (ps_asg (pe_ix ix_list (pe_fld (pv 0) (by rfl)) (pv 1) (fun _ _ => rfl)) (pg_tup (by rfl) (pgs_cons (pg_name (i := 2) sc_Meeting_direct.nd rfl (Or.inl rfl)) (pgs_cons (pg_name (i := 3) sc_Meeting_direct.nd rfl (Or.inl rfl)) pgs_nil))))
      (pss_cons (ps_set (i := 4) sc_Meeting_direct.nd rfl (Or.inl rfl) (pe_meth (pv 0) T.K_Meeting T.Me_Meeting_free (ok_Meeting_free T) (hr.mono (by decide)) T.b_Meeting_free .nil pass0 (pa_cons (pv 2) pa_nil)))
      (pss_cons (ps_set (i := 5) sc_Meeting_direct.nd rfl (Or.inr rfl) (pe_meth (pv 0) T.K_Meeting T.Me_Meeting_free (ok_Meeting_free T) (hr.mono (by decide)) T.b_Meeting_free .nil pass0 (pa_cons (pv 3) pa_nil)))
      (pss_cons (ps_setLc (i := 6) (own := [("hue", 11)]) (by rfl) sc_Meeting_direct.nd rfl rfl (sw_true rfl rfl rfl (by decide +kernel)) (pi_list (pv 4)) (blkOk_by (own := [("hue", 11)]) (N := ["self", "k", "s", "t", "ahead", "behind", "both", "a", "b", "some", "end", "hue"]) (sc := defScope s_Meeting_direct) (by decide +kernel)) (fun _ _ _ _ _ => (pg_name (i := 11) sc_Meeting_direct.nd rfl (Or.inl rfl))) (fun _ _ _ _ _ => (pts_one (pt_cmpR op_in_seq (pv 11) (pv 5) (by rfl)))) (fun _ _ _ _ _ => (pv 11)))
      (pss_cons (ps_if (pt_cmpR op_gt (pe_callB q_len (by rfl) T.z_len (by decide +kernel) (pa_cons (pv 6) pa_nil)) pe_int (nomark _)) (pss_cons (ps_dput (Nat.lt_of_le_of_lt (Nat.add_le_add_left (by decide) _) hr.units) (pe_fld (pv 0) (by rfl)) (pv 1) (pe_ix ix_list (pv 6) pe_int (fun _ _ => rfl)) (by rfl))
      (pss_one (ps_ret pe_bl))) pss_nil)
      (pss_cons (ps_for PassesOwn.never rfl (pi_list (pv 4)) (pg_name (i := 7) sc_Meeting_direct.nd rfl (Or.inl rfl))
      (pss_one (ps_for PassesOwn.never rfl (pi_list (pv 5)) (pg_name (i := 8) sc_Meeting_direct.nd rfl (Or.inl rfl))
      (pss_cons (ps_asg (pe_meth (pv 0) T.K_Meeting T.Me_Meeting_chain (ok_Meeting_chain T) (hr.mono (by decide)) T.b_Meeting_chain .nil pass0 (pa_cons (pv 3) (pa_cons (pv 7) (pa_cons (pv 8) pa_nil)))) (pg_tup (by rfl) (pgs_cons (pg_name (i := 9) sc_Meeting_direct.nd rfl (Or.inl rfl)) (pgs_cons (pg_name (i := 10) sc_Meeting_direct.nd rfl (Or.inl rfl)) pgs_nil))))
      (pss_one (ps_if (pt_cmpR op_ne (pv 10) (pv 2) (nomark _)) (pss_cons (ps_expr (pe_meth (pv 0) T.K_Meeting T.Me_Meeting_exchange (ok_Meeting_exchange T) (hr.mono (by decide)) T.b_Meeting_exchange .nil pass0 (pa_cons (pv 9) (pa_cons (pv 7) (pa_cons (pv 8) pa_nil)))))
      (pss_cons (ps_dput (Nat.lt_of_le_of_lt (Nat.add_le_add_left (by decide) _) hr.units) (pe_fld (pv 0) (by rfl)) (pv 1) (pv 7) (by rfl))
      (pss_one (ps_ret pe_bl)))) pss_nil))))))
      (pss_one (ps_ret pe_bl)))))))), pure_Meeting_direct T h⟩


def pr_Meeting_freed (K : PySem.W.Frag) (A : Ad) (v0 v1 v2 v3 : V) (H : Hp) (Q : VK) (_ : XK) : Prop := ∃ (m : Mt) (ps : List (Int × Int)) (M : Nat) (cs : List Int) (s t z a c : Int) (r : List Nat) (e : Option Int), v0 = .ref m.a ∧ v1 = .int s ∧ v2 = .int t ∧ v3 = .int z ∧ MtAt K A H m ps M cs ∧ Good ps cs M ∧ ps.length ≤ 100 ∧ M ≤ 1000 ∧
  (∃ l, freeF ps cs M s = a :: l) ∧ (∃ l, (freeF ps cs M t).filter (fun x => decide (x ∈ freeF ps cs M z)) = c :: l) ∧ ChnL ps cs z a c r e ∧ a ≠ c ∧ ∀ H', Same (hid [m.wn] H) (hid [m.wn] H') → H' m.wn = some (.dK (wornL (exF cs r a c))) → Q (.int a) H'
def t_Meeting_freed (K : PySem.W.Frag) (A : Ad) : TS :=
  (tSeq (tAsg (tOp (rIxL K) (tMeth A.c_Meeting "free" (sp_Meeting_free K A) [] E0 (tVar 0) (tCons (tVar 1) tNil)) (tC (.int 0))) (gName 4))
    (tSeq (tAsg (tMeth A.c_Meeting "free" (sp_Meeting_free K A) [] E0 (tVar 0) (tCons (tVar 3) tNil)) (gName 5))
    (tSeq (tAsg (tOp (rIxL K) (tLc (iList K (tMeth A.c_Meeting "free" (sp_Meeting_free K A) [] E0 (tVar 0) (tCons (tVar 2) tNil))) (gName 9) (tTest (tOp (rIn K false) (tVar 9) (tVar 5))) (tVar 9) [9]) (tC (.int 0))) (gName 6))
    (tSeq (tAsg (tMeth A.c_Meeting "chain" (sp_Meeting_chain K A) [] E0 (tVar 0) (tCons (tVar 3) (tCons (tVar 4) (tCons (tVar 6) tNil)))) (gTup K 2 (gCons (gName 7) (gCons (gName 8) gNil))))
    (tSeq (tDrop (tMeth A.c_Meeting "exchange" (sp_Meeting_exchange K A) [] E0 (tVar 0) (tCons (tVar 7) (tCons (tVar 4) (tCons (tVar 6) tNil)))))
    (tRet (tVar 4)))))))
theorem pure_Meeting_freed (T : Txt K mg A) {v0 v1 v2 v3 : V} {H : Hp} {Q : VK} {E : XK} (hh : pr_Meeting_freed K A v0 v1 v2 v3 H Q E) : t_Meeting_freed K A ⟨fun _ H' => Q .non H', Q, fun _ _ => False, fun _ _ => False⟩ [some v0, some v1, some v2, some v3, none, none, none, none, none, none] H := by
  obtain ⟨m, ps, M, cs, s, t, z, a, c, r, e, rfl, rfl, rfl, rfl, ma, g, lp, lM, ⟨la, ha⟩, ⟨lc, hc⟩, ch, ac, q⟩ := hh
  have cm : c ∈ (freeF ps cs M t).filter (fun x => decide (x ∈ freeF ps cs M z)) := by rw [hc]; exact List.mem_cons_self
  have cz : c ∈ freeF ps cs M z := by simpa using (List.mem_filter.mp cm).2
  have gl := g.len
  obtain ⟨nd, hr, lr⟩ := chn_len g ch ac (free_mem.mp cz).2.2
  have fz := free_len ps cs M t
  unfold t_Meeting_freed
  wtm_at "s"
  refine k_mF ma.ins rfl ?_
  wtm_at "s"
  refine ⟨_, _, rfl, m, ps, M, cs, _, rfl, rfl, ma, by omega, lM, fun p1 H1 np1 s1 e1 => ?_⟩
  rw [ha] at e1
  have m1 := ma.same s1
  wtm_at "s"
  refine k_ixL (sl e1) (v := .int a) (atI_nat (j := 0) rfl) ?_
  wtm_at "s"
  refine k_mF m1.ins rfl ?_
  wtm_at "s"
  refine ⟨_, _, rfl, m, ps, M, cs, _, rfl, rfl, m1, by omega, lM, fun p2 H2 np2 s2 e2 => ?_⟩
  have m2 := m1.same s2
  wtm_at "s"
  refine k_mF m2.ins rfl ?_
  wtm_at "s"
  refine ⟨_, _, rfl, m, ps, M, cs, _, rfl, rfl, m2, by omega, lM, fun p3 H3 np3 s3 e3 => ?_⟩
  have m3 := m2.same s3
  have e2' := s3 _ _ e2
  wtm_at "s"
  refine lc_pure (sl e3) (freeF ps cs M t) (by simp) (by omega) (fun x => if x ∈ freeF ps cs M z then some (V.int x) else none) ?_ (fun D H4 nD s4 eD => ?_)
  · intro i x y H' hx hy sm R R0 g1 g2
    rw [List.getElem?_map, hy] at hx
    cases hx
    have e2'' := sm _ _ e2'
    wtm_at "s"
    refine k_it (fun d => ?_) (fun d => ?_)
    · wtm_at "s"
      exact g1 _ (if_pos d)
    · exact g2 (if_neg d)
  rw [both_fm, hc] at eD
  have m4 := m3.same s4
  have s04 := s1.trans (s2.trans (s3.trans s4))
  wtm_at "s"
  refine k_ixL (sl eD) (v := .int c) (atI_nat (j := 0) rfl) ?_
  wtm_at "s"
  refine k_mF m4.ins rfl ?_
  wtm_at "s"
  refine ⟨_, _, _, _, rfl, m, ps, M, cs, _, _, _, r, e, rfl, rfl, rfl, rfl, m4, by omega, g.prp, ch, by omega, fun pp qq H5 nqq s5 eqq epp => ?_⟩
  have m5 := m4.same s5
  wtm_at "s"
  refine k_mF m5.ins rfl ?_
  wtm_at "s"
  refine ⟨_, _, _, _, rfl, m, ps, M, cs, a, c, r, qq, rfl, rfl, rfl, rfl, m5, eqq, nd, hr, by omega, by omega, fun H6 S6 e6 => ?_⟩
  wtm_at "s"
  exact q H6 ((hid_mono (s04.trans s5)).trans S6) e6
abbrev sp_Meeting_freed (K : PySem.W.Frag) (A : Ad) : Sp := fun vs H Q E => ∃ v0 v1 v2 v3, vs = [v0, v1, v2, v3] ∧ pr_Meeting_freed K A v0 v1 v2 v3 H Q E
theorem ok_Meeting_freed (T : Txt K mg A) : FnOk P w K mg base CX0 3 A.a_Meeting_freed A.d_Meeting_freed ["self", "s", "t", "z"] (sp_Meeting_freed K A) := by
  refine T.F_Meeting_freed.ok sc_Meeting_freed (fun vs H Q E h => by obtain ⟨v0, v1, v2, v3, rfl, _⟩ := h; rfl) (fun cdv A0 outer s H vs Q E hr h => ?_)
  obtain ⟨v0, v1, v2, v3, rfl, h⟩ := h
  exact ⟨t_Meeting_freed K A, (pss_cons (ps_set (i := 4) sc_Meeting_freed.nd rfl (Or.inl rfl) (pe_ix ix_list (pe_meth (pv 0) T.K_Meeting T.Me_Meeting_free (ok_Meeting_free T) (hr.mono (by decide)) T.b_Meeting_free .nil pass0 (pa_cons (pv 1) pa_nil)) pe_int (fun _ _ => rfl)))
      (pss_cons (ps_set (i := 5) sc_Meeting_freed.nd rfl (Or.inr rfl) (pe_meth (pv 0) T.K_Meeting T.Me_Meeting_free (ok_Meeting_free T) (hr.mono (by decide)) T.b_Meeting_free .nil pass0 (pa_cons (pv 3) pa_nil)))
      (pss_cons (ps_set (i := 6) sc_Meeting_freed.nd rfl (Or.inl rfl) (pe_ix ix_list (pe_lc (own := [("hue", 9)]) (by rfl) sc_Meeting_freed.nd (pi_list (pe_meth (pv 0) T.K_Meeting T.Me_Meeting_free (ok_Meeting_free T) (hr.mono (by decide)) T.b_Meeting_free .nil pass0 (pa_cons (pv 2) pa_nil))) (blkOk_by (own := [("hue", 9)]) (N := ["self", "s", "t", "z", "a", "beyond", "c", "some", "end", "hue"]) (sc := defScope s_Meeting_freed) (by decide +kernel)) (fun _ _ _ _ _ => (pg_name (i := 9) sc_Meeting_freed.nd rfl (Or.inl rfl))) (fun _ _ _ _ _ => (pts_one (pt_cmpR op_in_seq (pv 9) (pv 5) (by rfl)))) (fun _ _ _ _ _ => (pv 9))) pe_int (fun _ _ => rfl)))
      (pss_cons (ps_asg (pe_meth (pv 0) T.K_Meeting T.Me_Meeting_chain (ok_Meeting_chain T) (hr.mono (by decide)) T.b_Meeting_chain .nil pass0 (pa_cons (pv 3) (pa_cons (pv 4) (pa_cons (pv 6) pa_nil)))) (pg_tup (by rfl) (pgs_cons (pg_name (i := 7) sc_Meeting_freed.nd rfl (Or.inl rfl)) (pgs_cons (pg_name (i := 8) sc_Meeting_freed.nd rfl (Or.inl rfl)) pgs_nil))))
      (pss_cons (ps_expr (pe_meth (pv 0) T.K_Meeting T.Me_Meeting_exchange (ok_Meeting_exchange T) (hr.mono (by decide)) T.b_Meeting_exchange .nil pass0 (pa_cons (pv 7) (pa_cons (pv 4) (pa_cons (pv 6) pa_nil)))))
      (pss_one (ps_ret (pv 4)))))))), pure_Meeting_freed T h⟩
def pr_Meeting_round_about (K : PySem.W.Frag) (A : Ad) (v0 v1 : V) (H : Hp) (Q : VK) (_ : XK) : Prop := ∃ (m : Mt) (ps : List (Int × Int)) (M : Nat) (cs : List Int) (b a c : Int) (o : Nat) (r : List Nat) (e : Option Int), v0 = .ref m.a ∧ v1 = .int ((cs.length : Nat) : Int) ∧ MtAt K A H m ps M cs ∧ Good ps cs M ∧ cs.length < ps.length ∧ ps.length ≤ 100 ∧ M ≤ 1000 ∧ Rnd ps M cs cs.length b a c o r e ∧ a ≠ c ∧
  ∀ H', Same (hid [m.wn] H) (hid [m.wn] H') → H' m.wn = some (.dK (wornL (rndF cs b a c o r))) → Q .non H'
def t_Meeting_round_about (K : PySem.W.Frag) (A : Ad) : TS :=
  (tSeq (tAsg (tOp (rIxL K) (tFld K (tVar 0) "pairs") (tVar 1)) (gTup K 2 (gCons (gName 2) (gCons (gName 3) gNil))))
    (tSeq (tAsg (tOp (rIxL K) (tMeth A.c_Meeting "free" (sp_Meeting_free K A) [] E0 (tVar 0) (tCons (tVar 3) tNil)) (tC (.int 0))) (gName 4))
    (tSeq (tAsg (tMeth A.c_Meeting "by" (sp_Meeting_by K A) [] E0 (tVar 0) (tCons (tVar 2) (tCons (tVar 4) tNil))) (gName 5))
    (tSeq (tAsg (tOp (rIxL K) (tFld K (tVar 0) "pairs") (tVar 5)) (gTup K 2 (gCons (gName 6) (gCons (gName 7) gNil))))
    (tSeq (sDPut (tFld K (tVar 0) "worn") (tVar 5) (tMeth A.c_Meeting "freed" (sp_Meeting_freed K A) [] E0 (tVar 0) (tCons (tVar 2) (tCons (tVar 3) (tCons (tOp xSub (tOp xAdd (tVar 6) (tVar 7)) (tVar 2)) tNil)))))
    (sDPut (tFld K (tVar 0) "worn") (tVar 1) (tVar 4)))))))
theorem pure_Meeting_round_about (T : Txt K mg A) {v0 v1 : V} {H : Hp} {Q : VK} {E : XK} (hh : pr_Meeting_round_about K A v0 v1 H Q E) : t_Meeting_round_about K A ⟨fun _ H' => Q .non H', Q, fun _ _ => False, fun _ _ => False⟩ [some v0, some v1, none, none, none, none, none, none] H := by
  obtain ⟨m, ps, M, cs, b, a, c, o, r, e, rfl, rfl, ma, g, lc, lp, lM, ⟨⟨lb, hb⟩, ho, ha, hc, ch⟩, ac, q⟩ := hh
  obtain ⟨ys, eps, dys⟩ := ma.prs
  obtain ⟨c0, hc0, hc1⟩ := pairs_at dys lc
  have hc2 := same_seqT (hid_same _ _) hc1
  obtain ⟨o1, o2, o3⟩ := by_some ho
  unfold t_Meeting_round_about
  wtm_at "s"
  refine k_gF ma.ins T.K_Meeting T.N_Meeting_pairs rfl ?_
  wtm_at "s"
  refine k_ixL (sl eps) (atI_nat hc0) ?_
  wtm_at "s"
  refine k_mF ma.ins rfl ?_
  wtm_at "s"
  refine ⟨_, _, rfl, m, ps, M, cs, _, rfl, rfl, ma, by omega, lM, fun p1 H1 np1 s1 e1 => ?_⟩
  rw [hb] at e1
  have m1 := ma.same s1
  wtm_at "s"
  refine k_ixL (sl e1) (v := .int b) (atI_nat (j := 0) rfl) ?_
  wtm_at "s"
  refine k_mF m1.ins rfl ?_
  wtm_at "s"
  refine ⟨_, _, _, rfl, m, ps, M, cs, _, _, rfl, rfl, rfl, m1, by omega, ?_⟩
  rw [ho, show optN (some o) = V.int ((o : Nat) : Int) from rfl]
  obtain ⟨ys', eps', dys'⟩ := m1.prs
  obtain ⟨c3, hc3, hc4⟩ := pairs_at dys' (show o < ps.length by omega)
  have hc5 := same_seqT (hid_same _ _) hc4
  wtm_at "s"
  refine k_gF m1.ins T.K_Meeting T.N_Meeting_pairs rfl ?_
  wtm_at "s"
  refine k_ixL (sl eps') (atI_nat hc3) ?_
  wtm_at "s"
  refine k_mF m1.ins rfl ?_
  wtm_at "s"
  refine ⟨_, _, _, _, rfl, m, ps, M, cs, _, _, _, a, c, r, e, rfl, rfl, rfl, rfl, m1, g, lp, lM, ha, hc, ch, ac, fun H2 S2 e2 => ?_⟩
  have m2 := m1.put S2 e2
  have l2 := ex_len (cs := cs) r a c
  wtm_at "s"
  refine k_gF m2.ins T.K_Meeting T.N_Meeting_worn rfl ?_
  wtm_at "s"
  refine k_pD e2 (by rw [worn_len, l2]; omega) ?_
  rw [worn_set (by rw [l2]; exact o1)]
  have S3 : Same (hid [m.wn] H) (hid [m.wn] (upd H2 m.wn (.dK (wornL ((exF cs r a c).set o a))))) := same_hid_upd ((hid_mono s1).trans S2) (by simp)
  have e3 : upd H2 m.wn (.dK (wornL ((exF cs r a c).set o a))) m.wn = some (.dK (wornL ((exF cs r a c).set o a))) := upd_same
  generalize upd H2 m.wn (.dK (wornL ((exF cs r a c).set o a))) = H3 at S3 e3 ⊢
  have m3 := ma.put S3 e3
  have l3 : ((exF cs r a c).set o a).length = cs.length := by rw [List.length_set, l2]
  wtm_at "s"
  refine k_gF m3.ins T.K_Meeting T.N_Meeting_worn rfl ?_
  wtm_at "s"
  refine k_pD e3 (by rw [worn_len, l3]; omega) ?_
  rw [show ((cs.length : Nat) : Int) = ((((exF cs r a c).set o a).length : Nat) : Int) by rw [l3], worn_new]
  exact q _ (same_hid_upd S3 (by simp)) upd_same
abbrev sp_Meeting_round_about (K : PySem.W.Frag) (A : Ad) : Sp := fun vs H Q E => ∃ v0 v1, vs = [v0, v1] ∧ pr_Meeting_round_about K A v0 v1 H Q E
theorem ok_Meeting_round_about (T : Txt K mg A) : FnOk P w K mg base CX0 4 A.a_Meeting_round_about A.d_Meeting_round_about ["self", "k"] (sp_Meeting_round_about K A) := by
  refine T.F_Meeting_round_about.ok sc_Meeting_round_about (fun vs H Q E h => by obtain ⟨v0, v1, rfl, _⟩ := h; rfl) (fun cdv A0 outer s H vs Q E hr h => ?_)
  obtain ⟨v0, v1, rfl, h⟩ := h
  exact ⟨t_Meeting_round_about K A, (pss_cons (ps_asg (pe_ix ix_list (pe_fld (pv 0) (by rfl)) (pv 1) (fun _ _ => rfl)) (pg_tup (by rfl) (pgs_cons (pg_name (i := 2) sc_Meeting_round_about.nd rfl (Or.inl rfl)) (pgs_cons (pg_name (i := 3) sc_Meeting_round_about.nd rfl (Or.inl rfl)) pgs_nil))))
      (pss_cons (ps_set (i := 4) sc_Meeting_round_about.nd rfl (Or.inl rfl) (pe_ix ix_list (pe_meth (pv 0) T.K_Meeting T.Me_Meeting_free (ok_Meeting_free T) (hr.mono (by decide)) T.b_Meeting_free .nil pass0 (pa_cons (pv 3) pa_nil)) pe_int (fun _ _ => rfl)))
      (pss_cons (ps_set (i := 5) sc_Meeting_round_about.nd rfl (Or.inl rfl) (pe_meth (pv 0) T.K_Meeting T.Me_Meeting_by (ok_Meeting_by T) (hr.mono (by decide)) T.b_Meeting_by .nil pass0 (pa_cons (pv 2) (pa_cons (pv 4) pa_nil))))
      (pss_cons (ps_asg (pe_ix ix_list (pe_fld (pv 0) (by rfl)) (pv 5) (fun _ _ => rfl)) (pg_tup (by rfl) (pgs_cons (pg_name (i := 6) sc_Meeting_round_about.nd rfl (Or.inl rfl)) (pgs_cons (pg_name (i := 7) sc_Meeting_round_about.nd rfl (Or.inl rfl)) pgs_nil))))
      (pss_cons (ps_dput (Nat.lt_of_le_of_lt (Nat.add_le_add_left (by decide) _) hr.units) (pe_fld (pv 0) (by rfl)) (pv 5) (pe_meth (pv 0) T.K_Meeting T.Me_Meeting_freed (ok_Meeting_freed T) (hr.mono (by decide)) T.b_Meeting_freed .nil pass0 (pa_cons (pv 2) (pa_cons (pv 3) (pa_cons (pe_op op_sub (pe_op op_add (pv 6) (pv 7)) (pv 2)) pa_nil)))) (by rfl))
      (pss_one (ps_dput (Nat.lt_of_le_of_lt (Nat.add_le_add_left (by decide) _) hr.units) (pe_fld (pv 0) (by rfl)) (pv 1) (pv 4) (by rfl)))))))), pure_Meeting_round_about T h⟩
def pr_Meeting_put (K : PySem.W.Frag) (A : Ad) (v0 v1 : V) (H : Hp) (Q : VK) (_ : XK) : Prop := ∃ (m : Mt) (ps : List (Int × Int)) (M L : Nat) (cs : List Int), v0 = .ref m.a ∧ v1 = .int ((cs.length : Nat) : Int) ∧ MtAt K A H m ps M cs ∧ Good ps cs M ∧ cs.length < ps.length ∧ ps.length ≤ 100 ∧ M ≤ 1000 ∧ M = 3 * L / 2 ∧ (∀ v, deg ps.length (Pj ps) v ≤ L) ∧
  ∀ H', Same (hid [m.wn] H) (hid [m.wn] H') → H' m.wn = some (.dK (wornL (putF ps M cs cs.length))) → Q .non H'
def t_Meeting_put (K : PySem.W.Frag) (A : Ad) : TS :=
  (tIfS (tNot (tB (tMeth A.c_Meeting "direct" (sp_Meeting_direct K A) [] E0 (tVar 0) (tCons (tVar 1) tNil)))) (tDrop (tMeth A.c_Meeting "round_about" (sp_Meeting_round_about K A) [] E0 (tVar 0) (tCons (tVar 1) tNil))) tNext)
theorem direct_apart {ps : List (Int × Int)} {cs : List Int} {M k : Nat} (h : directF ps M cs k = none) : Apart ps cs M (Pj ps k).1 (Pj ps k).2 := by
  unfold directF at h
  split at h
  · cases h
  rename_i e
  exact ⟨filter_nil e⟩
theorem pure_Meeting_put (T : Txt K mg A) {v0 v1 : V} {H : Hp} {Q : VK} {E : XK} (hh : pr_Meeting_put K A v0 v1 H Q E) : t_Meeting_put K A ⟨fun _ H' => Q .non H', Q, fun _ _ => False, fun _ _ => False⟩ [some v0, some v1] H := by
  obtain ⟨m, ps, M, L, cs, rfl, rfl, ma, g, lc, lp, lM, hM, hL, q⟩ := hh
  unfold t_Meeting_put
  wtm_at "s"
  refine k_mF ma.ins rfl ?_
  wtm_at "s"
  refine ⟨_, _, rfl, m, ps, M, cs, rfl, rfl, ma, g, lc, lp, lM, fun cs' H1 hd S1 e1 => ?_, fun hd H1 s1 => ?_⟩
  · wtm_at "s"
    exact q H1 S1 (by rw [putF_direct hd]; exact e1)
  · obtain ⟨b, a, c, o, r, e, x⟩ := rnd_ex g rfl lc hM hL hd
    have m1 := ma.same s1
    wtm_at "s"
    refine k_mF m1.ins rfl ?_
    wtm_at "s"
    have ac : a ≠ c := fun z => by
      obtain ⟨la, ha⟩ := x.ha
      obtain ⟨lc, hc⟩ := x.hc
      have am : a ∈ freeF ps cs M (Pj ps cs.length).1 := by rw [ha]; exact List.mem_cons_self
      have cm : c ∈ (freeF ps cs M (Pj ps cs.length).2).filter (fun x => decide (x ∈ freeF ps cs M ((Pj ps o).1 + (Pj ps o).2 - (Pj ps cs.length).1))) := by rw [hc]; exact List.mem_cons_self
      exact (direct_apart hd).no a am (z ▸ (List.mem_filter.mp cm).1)
    refine ⟨_, _, rfl, m, ps, M, cs, b, a, c, o, r, e, rfl, rfl, m1, g, lc, lp, lM, x, ac, fun H2 S2 e2 => ?_⟩
    wtm_at "s"
    exact q H2 ((hid_mono s1).trans S2) (by rw [putF_rnd g.prp hd x]; exact e2)
abbrev sp_Meeting_put (K : PySem.W.Frag) (A : Ad) : Sp := fun vs H Q E => ∃ v0 v1, vs = [v0, v1] ∧ pr_Meeting_put K A v0 v1 H Q E
theorem ok_Meeting_put (T : Txt K mg A) : FnOk P w K mg base CX0 5 A.a_Meeting_put A.d_Meeting_put ["self", "k"] (sp_Meeting_put K A) := by
  refine T.F_Meeting_put.ok sc_Meeting_put (fun vs H Q E h => by obtain ⟨v0, v1, rfl, _⟩ := h; rfl) (fun cdv A0 outer s H vs Q E hr h => ?_)
  obtain ⟨v0, v1, rfl, h⟩ := h
  exact ⟨t_Meeting_put K A, (pss_one (ps_if (pt_not (pt_val (pe_meth (pv 0) T.K_Meeting T.Me_Meeting_direct (ok_Meeting_direct T) (hr.mono (by decide)) T.b_Meeting_direct .nil pass0 (pa_cons (pv 1) pa_nil)))) (pss_one (ps_expr (pe_meth (pv 0) T.K_Meeting T.Me_Meeting_round_about (ok_Meeting_round_about T) (hr.mono (by decide)) T.b_Meeting_round_about .nil pass0 (pa_cons (pv 1) pa_nil)))) pss_nil)), pure_Meeting_put T h⟩


def pr_must_be_crossing (K : PySem.W.Frag) (v0 : V) (H : Hp) (Q : VK) (_ : XK) : Prop := ∃ (many : Int) (ps : List (Int × Int)), Dp K H v0 (.tuple [.int many, dPairs ps]) ∧ (0 ≤ many ∧ many ≤ 60 ∧ ps.length ≤ 60 ∧ ∀ p ∈ ps, 0 ≤ p.1 ∧ p.1 ≤ p.2 ∧ p.2 < many) ∧ Q .non H
def t_must_be_crossing (K : PySem.W.Frag) : TS :=
  (tSeq (tAsg (tVar 0) (gTup K 2 (gCons (gName 1) (gCons (gName 2) gNil))))
    (tSeq (tIfS (tOr (tTest (tOp xLt (tVar 1) (tC (.int 0)))) (tOr (tTest (tOp xGt (tVar 1) (tC (.int 60)))) (tTest (tOp xGt (tCB (rLenX K) (tCons (tVar 2) tNil)) (tC (.int 60)))))) tNever tNext)
    (tFor (iList K (tVar 2)) (gTup K 2 (gCons (gName 3) (gCons (gName 4) gNil)))
      (tIfS (tOr (tTest (tOp xLt (tVar 3) (tC (.int 0)))) (tOr (tTest (tOp xGt (tVar 3) (tVar 4))) (tTest (tOp xGe (tVar 4) (tVar 1))))) tNever tNext))))
theorem pure_must_be_crossing {v0 : V} {H : Hp} {Q : VK} {E : XK} (hh : pr_must_be_crossing K v0 H Q E) : t_must_be_crossing K ⟨fun _ H' => Q .non H', Q, fun _ _ => False, fun _ _ => False⟩ [some v0, none, none, none, none] H := by
  obtain ⟨many, ps, d0, ⟨k0, k1, k2, k3⟩, q⟩ := hh
  obtain ⟨a, x, y, rfl, hs, hx, hy⟩ := dp_tup2 d0
  obtain rfl := dp_int hx
  obtain ⟨b, ys, rfl, hb, hys⟩ := dp_list hy
  have ly : ys.length = ps.length := by rw [dpa_len hys, List.length_map]
  unfold t_must_be_crossing
  wtm_at "s"
  refine forL hb (fun i σ' H' => H' = H ∧ ∃ k3 k4, σ' = [some (.ref a), some (.int many), some (.ref b), k3, k4]) ⟨rfl, _, _, rfl⟩ (fun i σ' H' _ e => e.1 ▸ hb) ?_ (fun σ' H' ⟨e, _⟩ => e ▸ q)
  rintro i x σ' H' hxi ⟨rfl, k3', k4, rfl⟩
  obtain ⟨p, c, hp, rfl, hc⟩ := dpairs_get hys hxi
  obtain ⟨p1, p2, p3⟩ := k3 p (List.mem_of_getElem? hp)
  wtm_at "s"
  exact ⟨rfl, _, _, rfl⟩
abbrev sp_must_be_crossing (K : PySem.W.Frag) : Sp := fun vs H Q E => ∃ v0, vs = [v0] ∧ pr_must_be_crossing K v0 H Q E
theorem ok_must_be_crossing (T : Txt K mg A) : FnOk P w K mg base CX0 1 A.a_must_be_crossing A.d_must_be_crossing ["crossing"] (sp_must_be_crossing K) := by
  refine T.F_must_be_crossing.ok sc_must_be_crossing (fun vs H Q E h => by obtain ⟨v0, rfl, _⟩ := h; rfl) (fun cdv A0 outer s H vs Q E hr h => ?_)
  obtain ⟨v0, rfl, h⟩ := h
  exact ⟨t_must_be_crossing K, (pss_cons (ps_asg (pv 0) (pg_tup (by rfl) (pgs_cons (pg_name (i := 1) sc_must_be_crossing.nd rfl (Or.inl rfl)) (pgs_cons (pg_name (i := 2) sc_must_be_crossing.nd rfl (Or.inl rfl)) pgs_nil))))
      (pss_cons (ps_if (PW.pt (pw_or (pt_cmpR op_lt (pv 1) pe_int (nomark _)) (pw_or (pt_cmpR op_gt (pv 1) (pe_glob (v := .int 60) (by rfl) T.c_MOST_TIES ⟨_, rfl⟩) (nomark _)) (pw_or1 (pt_cmpR op_gt (pe_callB q_len (by rfl) T.z_len (by decide +kernel) (pa_cons (pv 2) pa_nil)) (pe_glob (v := .int 60) (by rfl) T.c_MOST_PAIRS ⟨_, rfl⟩) (nomark _)))))) (pss_one ps_never) pss_nil)
      (pss_one (ps_for PassesOwn.never rfl (pi_list (pv 2)) (pg_tup (by rfl) (pgs_cons (pg_name (i := 3) sc_must_be_crossing.nd rfl (Or.inl rfl)) (pgs_cons (pg_name (i := 4) sc_must_be_crossing.nd rfl (Or.inl rfl)) pgs_nil)))
      (pss_one (ps_if (PW.pt (pw_or (pt_cmpR op_lt (pv 3) pe_int (nomark _)) (pw_or (pt_cmpR op_gt (pv 3) (pv 4) (nomark _)) (pw_or1 (pt_cmpR op_ge (pv 4) (pv 1) (nomark _)))))) (pss_one ps_never) pss_nil)))))), pure_must_be_crossing h⟩
abbrev dCr (many : Int) (ps : List (Int × Int)) : PyData := .tuple [.int many, dPairs ps]
/-- a crossing -/
def CrOk (many : Int) (ps : List (Int × Int)) : Prop := 0 ≤ many ∧ many ≤ 60 ∧ ps.length ≤ 60 ∧ ∀ p ∈ ps, 0 ≤ p.1 ∧ p.1 ≤ p.2 ∧ p.2 < many
theorem dp_cr {H : Hp} {v : V} {many : Int} {ps : List (Int × Int)} (h : Dp K H v (dCr many ps)) : ∃ a b ys, v = .ref a ∧ SqT K H a [.int many, .ref b] ∧ SqL K H b ys ∧ DpAll K H ys (ps.map dPair) ∧ ys.length = ps.length := by
  obtain ⟨a, x, y, rfl, hs, hx, hy⟩ := dp_tup2 h
  obtain rfl := dp_int hx
  obtain ⟨b, ys, rfl, hb, hys⟩ := dp_list hy
  exact ⟨a, b, ys, rfl, hs, hb, hys, by rw [dpa_len hys, List.length_map]⟩
def pr_load_at (K : PySem.W.Frag) (v0 : V) (H : Hp) (Q : VK) (_ : XK) : Prop := ∃ (many : Int) (ps : List (Int × Int)), Dp K H v0 (dCr many ps) ∧ CrOk many ps ∧ ∀ L H', IsLoad ps L → Same H H' → Q (.int ((L : Nat) : Int)) H'
def t_load_at (K : PySem.W.Frag) : TS :=
  (tSeq (tAsg (tVar 0) (gTup K 2 (gCons (gName 1) (gCons (gName 2) gNil))))
    (tRet (tCB (rMax K) (tCons (tOp rCat (tLst (tCons (tC (.int 0)) tNil)) (tLc (iRng1 (tCons (tVar 1) tNil)) (gName 3) tYes (tCB (rLenX K) (tCons (tLc (iList K (tVar 2)) (gName 4) (tTest (tOp (rIn K false) (tVar 3) (tVar 4))) (tVar 4) [4]) tNil)) [3])) tNil))))
theorem deg_list (ps : List (Int × Int)) (v : Int) : ps.countP (fun p => decide (On p v)) = deg ps.length (Pj ps) v := by
  unfold deg
  have key : ∀ n, n ≤ ps.length → (ps.take n).countP (fun p => decide (On p v)) = (List.range n).countP fun j => decide (On (Pj ps j) v) := by
    intro n
    induction n with
    | zero => intro _; rfl
    | succ n ih =>
      intro h
      have e : ps[n]? = some (Pj ps n) := by
        show ps[n]? = some (ps.getD n (0, 0))
        rw [List.getD_eq_getElem?_getD, List.getElem?_eq_getElem (by omega)]; rfl
      rw [List.take_add_one, e, List.countP_append, ih (by omega), List.range_succ, List.countP_append]
      rfl
  have := key ps.length (Nat.le_refl _)
  rwa [List.take_length] at this
theorem deg_out {many : Int} {ps : List (Int × Int)} (ok : CrOk many ps) {v : Int} (h : v < 0 ∨ many ≤ v) : deg ps.length (Pj ps) v = 0 := by
  rw [← deg_list, List.countP_eq_zero]
  intro p hp
  have := ok.2.2.2 p hp
  simp only [decide_eq_true_eq]
  unfold On
  omega
theorem load_of {many : Int} {ps : List (Int × Int)} (ok : CrOk many ps) {L : Int} (h0 : L = 0 ∨ ∃ v : Nat, (v : Int) < many ∧ L = ((deg ps.length (Pj ps) (v : Int) : Nat) : Int)) (h1 : ∀ v : Nat, (v : Int) < many → ((deg ps.length (Pj ps) (v : Int) : Nat) : Int) ≤ L) (hz : 0 ≤ L) : ∃ N : Nat, L = N ∧ IsLoad ps N := by
  refine ⟨L.toNat, by omega, fun v => ?_, ?_⟩
  · by_cases c : v < 0 ∨ many ≤ v
    · rw [deg_out ok c]; omega
    · have := h1 v.toNat (by omega)
      rw [show ((v.toNat : Nat) : Int) = v by omega] at this
      omega
  · rcases h0 with h | ⟨v, _, h⟩
    · exact .inl (by omega)
    · exact .inr ⟨v, by omega⟩
theorem in_fm {ps : List (Int × Int)} {xs : List V} {v : Int} (hl : xs.length = ps.length) : ((ps.zip xs).filterMap fun q => if On q.1 v then some q.2 else none).length = deg ps.length (Pj ps) v := by
  rw [← deg_list]
  induction ps generalizing xs with
  | nil => simp
  | cons p r ih => cases xs with
    | nil => simp at hl
    | cons x xs =>
      rw [List.zip_cons_cons, List.filterMap_cons, List.countP_cons]
      have := ih (xs := xs) (by simpa using hl)
      by_cases c : On p v
      · simp only [c, if_true, decide_true]
        rw [List.length_cons, this]
      · simp only [c, if_false, decide_false]
        rw [this]; simp
theorem pure_load_at {v0 : V} {H : Hp} {Q : VK} {E : XK} (hh : pr_load_at K v0 H Q E) : t_load_at K ⟨fun _ H' => Q .non H', Q, fun _ _ => False, fun _ _ => False⟩ [some v0, none, none, none, none] H := by
  obtain ⟨many, ps, d0, ok, q⟩ := hh
  obtain ⟨a, b, ys, rfl, ha, hb, hys, ly⟩ := dp_cr d0
  obtain ⟨k0, k1, k2, k3⟩ := id ok
  unfold t_load_at
  wtm_at "s"
  refine kL (by simp) (fun z H1 nz s1 e1 => ?_)
  wtm_at "s"
  refine lc_growR (by omega) (fun i => some (V.int ((deg ps.length (Pj ps) ((i : Nat) : Int) : Nat) : Int))) ?_ (fun D H2 nD s2 eD => ?_)
  · intro i H' hi sm R R0 g1 g2
    have s' := s1.trans sm
    rw [Int.zero_add]
    have hb' := s'.seq hb
    wtm_at "s"
    refine lc_pure hb' (ps.zip ys) (by simp; omega) (by simp; omega) (fun q => if On q.1 (i : Int) then some q.2 else none) ?_ (fun D3 H3 nD3 s3 e3 => ?_)
    · intro j x p H'' hx hp sm2 R R0 h1 h2
      have hz := List.getElem?_zip_eq_some.mp hp
      obtain ⟨d, hd1, hd2⟩ := dpa_get hys hx
      rw [List.getElem?_map, hz.1] at hd1
      cases hd1
      obtain ⟨c, rfl, hc⟩ := dp_pair hd2
      have hc' := same_seqT (s'.trans sm2) hc
      have ep : p.2 = .ref c := by have := hz.2; rw [hx] at this; exact (Option.some.inj this).symm
      wtm_at "s"
      refine k_inT2 hc' ?_
      wtm_at "s"
      refine k_it (fun d => ?_) (fun d => ?_)
      · wtm_at "s"
        exact h1 _ (by rw [if_pos (by unfold On; omega), ep])
      · exact h2 (if_neg (by unfold On; omega))
    wtm_at "s"
    rw [in_fm ly]
    exact g1 _ _ rfl s3
  rw [fm_map] at eD
  have eD' : H2 D = some (.lst (((List.range many.toNat).map fun (i : Nat) => ((deg ps.length (Pj ps) ((i : Nat) : Int) : Nat) : Int)).map V.int)) := by rw [eD, List.map_map]; rfl
  refine k_catN (s2 _ _ e1) eD' (by simp; omega) (fun l H3 nl s3 e3 => ?_)
  have e3' : H3 l = some (.lst ((0 :: (List.range many.toNat).map fun (i : Nat) => ((deg ps.length (Pj ps) ((i : Nat) : Int) : Nat) : Int)).map V.int)) := e3
  wtm_at "s"
  refine k_max (sl e3') (by simp) (fun L h1 h2 => ?_)
  obtain ⟨N, rfl, hN⟩ := load_of ok (L := L) (by
    rcases List.mem_cons.mp h1 with h | h
    · exact .inl h
    · obtain ⟨v, hv, rfl⟩ := List.mem_map.mp h
      have := List.mem_range.mp hv
      exact .inr ⟨v, by omega, rfl⟩) (fun v hv => h2 _ (List.mem_cons_of_mem _ (List.mem_map.mpr ⟨v, List.mem_range.mpr (by omega), rfl⟩))) (h2 0 List.mem_cons_self)
  exact q N H3 hN (s1.trans (s2.trans s3))
abbrev sp_load_at (K : PySem.W.Frag) : Sp := fun vs H Q E => ∃ v0, vs = [v0] ∧ pr_load_at K v0 H Q E
theorem ok_load_at (T : Txt K mg A) : FnOk P w K mg base CX0 1 A.a_load_at A.d_load_at ["crossing"] (sp_load_at K) := by
  refine T.F_load_at.ok sc_load_at (fun vs H Q E h => by obtain ⟨v0, rfl, _⟩ := h; rfl) (fun cdv A0 outer s H vs Q E hr h => ?_)
  obtain ⟨v0, rfl, h⟩ := h
  exact ⟨t_load_at K, (pss_cons (ps_asg (pv 0) (pg_tup (by rfl) (pgs_cons (pg_name (i := 1) sc_load_at.nd rfl (Or.inl rfl)) (pgs_cons (pg_name (i := 2) sc_load_at.nd rfl (Or.inr rfl)) pgs_nil))))
      (pss_one (ps_ret (pe_callB (cr_max (by rfl)) (by rfl) T.z_max (by decide +kernel) (pa_cons (pe_op op_cat (pe_lst (pa_cons pe_int pa_nil)) (pe_lc (own := [("tie", 3)]) (by rfl) sc_load_at.nd (pi_range1 (by rfl) T.z_range (pa_cons (pv 1) pa_nil)) (blkOk_by (own := [("tie", 3)]) (N := ["crossing", "many", "pairs", "tie", "pair"]) (sc := defScope s_load_at) (by decide +kernel)) (fun _ _ _ _ _ => (pg_name (i := 3) sc_load_at.nd rfl (Or.inr rfl))) (fun _ _ _ _ _ => pts_nil) (fun _ _ _ _ _ => (pe_callB q_len (by rfl) T.z_len (by decide +kernel) (pa_cons (pe_lc (own := [("pair", 4)]) (by rfl) sc_load_at.nd (pi_list (pv 2)) (blkOk_by (own := [("pair", 4)]) (N := ["crossing", "many", "pairs", "tie", "pair"]) (sc := { kind := PySem.ScopeKind.function, names := [ (PySem.Str.ofString ".0", PySem.NameKind.local), (PySem.Str.ofString "tie", PySem.NameKind.cell), (PySem.Str.ofString "len", PySem.NameKind.globalImplicit), (PySem.Str.ofString "pairs", PySem.NameKind.cell)], isGenerator := false, isCoroutine := false, more := [] : PySem.Scope }) (by decide +kernel)) (fun _ _ _ _ _ => (pg_name (i := 4) sc_load_at.nd rfl (Or.inl rfl))) (fun _ _ _ _ _ => (pts_one (pt_cmpR op_in_seq (pv 3) (pv 4) (by rfl)))) (fun _ _ _ _ _ => (pv 4))) pa_nil))))) pa_nil))))), pure_load_at h⟩
theorem putF_lenM (f : Str) (v : V) : ∀ fs : List (Str × V), (L2.putF f v fs).length ≤ fs.length + 1
  | [] => Nat.le_refl _
  | (g, x) :: r => by
    unfold L2.putF
    split
    · simp
    · have := putF_lenM f v r
      simp only [List.length_cons]
      omega
def pr_Meeting_init (K : PySem.W.Frag) (A : Ad) (v0 v1 v2 : V) (H : Hp) (Q : VK) (_ : XK) : Prop := ∃ (a dx pr : Addr) (M : Nat), v0 = .ref a ∧ v1 = .ref pr ∧ v2 = .int ((M : Nat) : Int) ∧ H a = some (.ins A.c_Meeting dx []) ∧ ∀ wn H', H wn = none → Same (hid [a] H) (hid [a] H') → H' a = some (.ins A.c_Meeting dx (mtF ⟨a, dx, pr, wn⟩ M)) → H' wn = some (.dK []) → Q .non H'
def t_Meeting_init (K : PySem.W.Frag) (A : Ad) : TS :=
  (tSeq (sFld K (tVar 0) (tVar 1) "pairs")
    (tSeq (sFld K (tVar 0) (tVar 2) "most")
    (sFld K (tVar 0) tDNewK "worn")))
theorem pure_Meeting_init (T : Txt K mg A) {v0 v1 v2 : V} {H : Hp} {Q : VK} {E : XK} (hh : pr_Meeting_init K A v0 v1 v2 H Q E) : t_Meeting_init K A ⟨fun _ H' => Q .non H', Q, fun _ _ => False, fun _ _ => False⟩ [some v0, some v1, some v2] H := by
  obtain ⟨a, dx, pr, M, rfl, rfl, rfl, ea, q⟩ := hh
  unfold t_Meeting_init
  wtm_at "s"
  refine k_pF ea T.K_Meeting T.N_Meeting_pairs (by decide) ?_
  have S1 : Same (hid [a] H) (hid [a] (upd H a (.ins A.c_Meeting dx (L2.putF (Str.ofString "pairs") (.ref pr) [])))) := same_hid_upd (Same.refl _) (by simp)
  have e1 : upd H a (.ins A.c_Meeting dx (L2.putF (Str.ofString "pairs") (.ref pr) [])) a = some (.ins A.c_Meeting dx (L2.putF (Str.ofString "pairs") (.ref pr) [])) := upd_same
  have f1 : ∀ x, upd H a (.ins A.c_Meeting dx (L2.putF (Str.ofString "pairs") (.ref pr) [])) x = none → H x = none := fun x h => by
    by_cases c : x = a
    · rw [c, upd_same] at h; cases h
    · rwa [upd_ne c] at h
  generalize upd H a (.ins A.c_Meeting dx (L2.putF (Str.ofString "pairs") (.ref pr) [])) = H1 at S1 e1 f1 ⊢
  wtm_at "s"
  refine k_pF e1 T.K_Meeting T.N_Meeting_most (Nat.lt_of_le_of_lt (putF_lenM _ _ _) (by decide)) ?_
  have S2 : Same (hid [a] H) (hid [a] (upd H1 a (.ins A.c_Meeting dx (L2.putF (Str.ofString "most") (.int M) (L2.putF (Str.ofString "pairs") (.ref pr) []))))) := same_hid_upd S1 (by simp)
  have e2 : upd H1 a (.ins A.c_Meeting dx (L2.putF (Str.ofString "most") (.int M) (L2.putF (Str.ofString "pairs") (.ref pr) []))) a = some (.ins A.c_Meeting dx (L2.putF (Str.ofString "most") (.int M) (L2.putF (Str.ofString "pairs") (.ref pr) []))) := upd_same
  have f2 : ∀ x, upd H1 a (.ins A.c_Meeting dx (L2.putF (Str.ofString "most") (.int M) (L2.putF (Str.ofString "pairs") (.ref pr) []))) x = none → H x = none := fun x h => by
    by_cases c : x = a
    · rw [c, upd_same] at h; cases h
    · rw [upd_ne c] at h; exact f1 x h
  generalize upd H1 a (.ins A.c_Meeting dx (L2.putF (Str.ofString "most") (.int M) (L2.putF (Str.ofString "pairs") (.ref pr) []))) = H2 at S2 e2 f2 ⊢
  wtm_at "s"
  refine kD (fun wn H3 nwn s3 ewn => ?_)
  wtm_at "s"
  have ea3 := s3 _ _ e2
  refine k_pF ea3 T.K_Meeting T.N_Meeting_worn (Nat.lt_of_le_of_lt (Nat.le_trans (putF_lenM _ _ _) (Nat.succ_le_succ (putF_lenM _ _ _))) (by decide)) ?_
  have na : wn ≠ a := fun z => by rw [z, e2] at nwn; cases nwn
  exact q wn _ (f2 wn nwn) (same_hid_upd (S2.trans (hid_mono s3)) (by simp)) (by rw [upd_same]; rfl) (by rw [upd_ne na]; exact ewn)
abbrev sp_Meeting_init (K : PySem.W.Frag) (A : Ad) : Sp := fun vs H Q E => ∃ v0 v1 v2, vs = [v0, v1, v2] ∧ pr_Meeting_init K A v0 v1 v2 H Q E
theorem ok_Meeting_init (T : Txt K mg A) : FnOk P w K mg base CX0 1 A.a_Meeting_init A.d_Meeting_init ["self", "pairs", "most"] (sp_Meeting_init K A) := by
  refine T.F_Meeting_init.ok sc_Meeting_init (fun vs H Q E h => by obtain ⟨v0, v1, v2, rfl, _⟩ := h; rfl) (fun cdv A0 outer s H vs Q E hr h => ?_)
  obtain ⟨v0, v1, v2, rfl, h⟩ := h
  exact ⟨t_Meeting_init K A, (pss_cons (ps_fld (pv 0) (pv 1) (by rfl))
      (pss_cons (ps_fld (pv 0) (pv 2) (by rfl))
      (pss_one (ps_fld (pv 0) pe_dnewK (by rfl))))), pure_Meeting_init T h⟩
/-- a new Meeting -/
theorem k_newMt {E : XK} {H : Hp} {Q : VK} {pr : Addr} {M : Nat} {ys : List V} {ps : List (Int × Int)} (epr : H pr = some (.lst ys)) (dys : DpAll K H ys (ps.map dPair)) (q : ∀ (m : Mt) H', Same H H' → MtAt K A H' m ps M [] → H m.wn = none → Q (.ref m.a) H') : newI A.c_Meeting (sp_Meeting_init K A) E [.ref pr, .int ((M : Nat) : Int)] H Q := by
  intro x dx nx ndx ne
  have s1 : Same H (hid [x] (upd (upd H dx (.own x)) x (.ins A.c_Meeting dx []))) := by
    rw [hid_upd (by simp)]
    intro b o hb
    rw [hid_ne (fun z => by rw [List.mem_singleton.mp z, nx] at hb; cases hb), upd_ne (fun z => by rw [z, ndx] at hb; cases hb)]
    exact hb
  have fre : ∀ r, upd (upd H dx (.own x)) x (.ins A.c_Meeting dx []) r = none → H r = none := fun r h => by
    by_cases c : r = x
    · rw [c, upd_same] at h; cases h
    · rw [upd_ne c] at h
      by_cases d : r = dx
      · rw [d, upd_same] at h; cases h
      · rwa [upd_ne d] at h
  refine ⟨_, _, _, rfl, x, dx, pr, M, rfl, rfl, rfl, upd_same, fun wn H' nwn S ea ewn => ⟨rfl, ?_⟩⟩
  have sm : Same H H' := (s1.trans S).trans (hid_same _ _)
  refine q ⟨x, dx, pr, wn⟩ H' sm ⟨ea, ⟨ys, sm _ _ epr, dpa_same ((hid_free1 (fre wn nwn)).trans (hid_mono sm)) dys⟩, ewn⟩ (fre wn nwn)
def pr_cross_hues (K : PySem.W.Frag) (A : Ad) (v0 : V) (H : Hp) (Q : VK) (_ : XK) : Prop := ∃ (many : Int) (ps : List (Int × Int)), Dp K H v0 (dCr many ps) ∧ CrOk many ps ∧ ∀ L p H', IsLoad ps L → H p = none → Same H H' → H' p = some (.lst ((crossF ps (3 * L / 2) ps.length).map V.int)) → Q (.ref p) H'
def t_cross_hues (K : PySem.W.Frag) (A : Ad) : TS :=
  (tSeq (tDrop (tCall (sp_must_be_crossing K) [] E0 (tCons (tVar 0) tNil)))
    (tSeq (tAsg (tMake A.c_Meeting (sp_Meeting_init K A) [] E0 (tCons (tCB (rListOf K) (tCons (tOp (rIxT K) (tVar 0) (tC (.int 1))) tNil)) (tCons (tOp xDiv (tOp xMul (tC (.int 3)) (tCall (sp_load_at K) [] E0 (tCons (tVar 0) tNil))) (tC (.int 2))) tNil))) (gName 1))
    (tSeq (tFor (iRng1 (tCons (tCB (rLenX K) (tCons (tOp (rIxT K) (tVar 0) (tC (.int 1))) tNil)) tNil)) (gName 2)
      (tDrop (tMeth A.c_Meeting "put" (sp_Meeting_put K A) [] E0 (tVar 1) (tCons (tVar 2) tNil))))
    (tRet (tLc (iRng1 (tCons (tCB (rLenX K) (tCons (tOp (rIxT K) (tVar 0) (tC (.int 1))) tNil)) tNil)) (gName 2) tYes (tDGet (tFld K (tVar 1) "worn") (tVar 2)) [2])))))
theorem deg_le (n : Nat) (P : Nat → Int × Int) (v : Int) : deg n P v ≤ n := by
  unfold deg
  have := List.countP_le_length (p := fun j => decide (On (P j) v)) (l := List.range n)
  simpa using this
theorem load_le {ps : List (Int × Int)} {L : Nat} (h : IsLoad ps L) : L ≤ ps.length := by
  rcases h.2 with h | ⟨v, h⟩
  · omega
  · have := deg_le ps.length (Pj ps) v; omega
theorem all_at (cs : List Int) : (List.range cs.length).filterMap (fun j => some (V.int (Cj cs j))) = cs.map V.int := by
  refine List.ext_getElem? fun j => ?_
  rw [fm_map, List.getElem?_map, List.getElem?_map]
  by_cases c : j < cs.length
  · rw [List.getElem?_range c, List.getElem?_eq_getElem c]
    show some (V.int (cs.getD j 0)) = _
    rw [List.getD_eq_getElem?_getD, List.getElem?_eq_getElem c]; rfl
  · rw [List.getElem?_eq_none (by simpa using c), List.getElem?_eq_none (by simpa using c)]; rfl
theorem pure_cross_hues (T : Txt K mg A) {v0 : V} {H : Hp} {Q : VK} {E : XK} (hh : pr_cross_hues K A v0 H Q E) : t_cross_hues K A ⟨fun _ H' => Q .non H', Q, fun _ _ => False, fun _ _ => False⟩ [some v0, none, none] H := by
  obtain ⟨many, ps, d0, ok, q⟩ := hh
  obtain ⟨a, b, ys, rfl, ha, hb, hys, ly⟩ := dp_cr d0
  obtain ⟨k0, k1, k2, k3⟩ := id ok
  unfold t_cross_hues
  wtm_at "s"
  refine ⟨_, rfl, many, ps, d0, ok, ?_⟩
  wtm_at "s"
  refine k_listN hb (fun pr H1 npr s1 e1 => ?_)
  wtm_at "s"
  refine ⟨_, rfl, many, ps, dp_same s1 d0, ok, fun L H2 hL s2 => ?_⟩
  have Ll := load_le hL
  wtm_at "s"
  have eM : (3 : Int) * (L : Int) / 2 = ((3 * L / 2 : Nat) : Int) := by omega
  rw [eM]
  have s02 := s1.trans s2
  refine k_newMt (s2 _ _ e1) (dpa_same s02 hys) (fun m H3 s3 ma nwn => ?_)
  have s03 := s02.trans s3
  have ha3 := same_seqT s03 ha
  have hb3 := s03.seq hb
  have fr : H m.wn = none := s02.free nwn
  wtm_at "s"
  rw [ly]
  refine forR (fun i σ' H' => Same H (hid [m.wn] H') ∧ MtAt K A H' m ps (3 * L / 2) (crossF ps (3 * L / 2) i) ∧ ∃ k2, σ' = [some (.ref a), some (.ref m.a), k2]) ⟨(hid_free1 fr).trans (hid_mono s03), ma, _, rfl⟩ ?_ ?_
  · rintro i σ' H4 hi ⟨S4, m4, k2', rfl⟩
    have hi' : i < ps.length := by omega
    obtain ⟨gd, gl⟩ := cross_good (ps := ps) (M := 3 * L / 2) rfl hL.1 i (by omega)
    rw [Int.zero_add]
    wtm_at "s"
    refine k_mF m4.ins rfl ?_
    wtm_at "s"
    refine ⟨_, _, rfl, m, ps, 3 * L / 2, L, crossF ps (3 * L / 2) i, rfl, by rw [gl], m4, gd, by omega, by omega, by omega, rfl, hL.1, fun H5 S5 e5 => ?_⟩
    rw [gl] at e5
    wtm_at "s"
    exact ⟨S4.trans S5, m4.put S5 e5, _, rfl⟩
  · rintro σ' H4 ⟨S4, m4, k2', rfl⟩
    rw [Int.toNat_natCast] at m4
    obtain ⟨gd, gl⟩ := cross_good (ps := ps) (M := 3 * L / 2) rfl hL.1 ps.length (Nat.le_refl _)
    have s4 := S4.trans (hid_same _ _)
    have ha4 := same_seqT s4 ha
    have hb4 := s4.seq hb
    wtm_at "s"
    refine lc_pureR (by omega) (fun j => some (V.int (Cj (crossF ps (3 * L / 2) ps.length) j))) ?_ (fun D H5 nD s5 eD => ?_)
    · intro j H' hj sm R R0 g1 g2
      have hj' : j < ps.length := by omega
      have m5 := m4.same sm
      rw [Int.zero_add]
      wtm_at "s"
      refine k_gF m5.ins T.K_Meeting T.N_Meeting_worn rfl ?_
      wtm_at "s"
      refine k_gD1 (.inl m5.wrn) (worn_val (by rw [gl]; exact hj')) ?_
      exact g1 _ rfl
    have e6 : (((ys.length : Nat) : Int)).toNat = (crossF ps (3 * L / 2) ps.length).length := by rw [gl]; omega
    rw [e6, all_at] at eD
    exact q L D H5 hL (s4.free nD) (s4.trans s5) eD
abbrev sp_cross_hues (K : PySem.W.Frag) (A : Ad) : Sp := fun vs H Q E => ∃ v0, vs = [v0] ∧ pr_cross_hues K A v0 H Q E
theorem ok_cross_hues (T : Txt K mg A) : FnOk P w K mg base CX0 6 A.a_cross_hues A.d_cross_hues ["crossing"] (sp_cross_hues K A) := by
  refine T.F_cross_hues.ok sc_cross_hues (fun vs H Q E h => by obtain ⟨v0, rfl, _⟩ := h; rfl) (fun cdv A0 outer s H vs Q E hr h => ?_)
  obtain ⟨v0, rfl, h⟩ := h
  exact ⟨t_cross_hues K A, (pss_cons (ps_expr (pe_call (ok_must_be_crossing T) (hr.mono (by decide)) (by rfl) T.g_must_be_crossing T.F_must_be_crossing.kp T.b_must_be_crossing .nil pass0 (pa_cons (pv 0) pa_nil)))
      (pss_cons (ps_set (i := 1) sc_cross_hues.nd rfl (Or.inr rfl) (pe_make T.M_Meeting (ok_Meeting_init T) (hr.mono (by decide)) (by rfl) T.k_Meeting T.b_Meeting_init .nil pass0 (pa_cons (pe_callTy q_listOf (by rfl) T.z_list (by decide +kernel) (pa_cons (pe_ix ix_tup (pv 0) pe_int (fun _ _ => rfl)) pa_nil)) (pa_cons (pe_op op_fdiv (pe_op op_mul pe_int (pe_call (ok_load_at T) (hr.mono (by decide)) (by rfl) T.g_load_at T.F_load_at.kp T.b_load_at .nil pass0 (pa_cons (pv 0) pa_nil))) pe_int) pa_nil))))
      (pss_cons (ps_for PassesOwn.never rfl (pi_range1 (by rfl) T.z_range (pa_cons (pe_callB q_len (by rfl) T.z_len (by decide +kernel) (pa_cons (pe_ix ix_tup (pv 0) pe_int (fun _ _ => rfl)) pa_nil)) pa_nil)) (pg_name (i := 2) sc_cross_hues.nd rfl (Or.inl rfl))
      (pss_one (ps_expr (pe_meth (pv 1) T.K_Meeting T.Me_Meeting_put (ok_Meeting_put T) (hr.mono (by decide)) T.b_Meeting_put .nil pass0 (pa_cons (pv 2) pa_nil)))))
      (pss_one (ps_ret (pe_lc (own := [("k", 2)]) (by rfl) sc_cross_hues.nd (pi_range1 (by rfl) T.z_range (pa_cons (pe_callB q_len (by rfl) T.z_len (by decide +kernel) (pa_cons (pe_ix ix_tup (pv 0) pe_int (fun _ _ => rfl)) pa_nil)) pa_nil)) (blkOk_by (own := [("k", 2)]) (N := ["crossing", "meeting", "k"]) (sc := defScope s_cross_hues) (by decide +kernel)) (fun _ _ _ _ _ => (pg_name (i := 2) sc_cross_hues.nd rfl (Or.inl rfl))) (fun _ _ _ _ _ => pts_nil) (fun _ _ _ _ _ => (pe_dget (Nat.lt_of_le_of_lt (Nat.add_le_add_left (by decide) _) hr.units) (pe_fld (pv 1) (by rfl)) (pv 2) (fun _ _ => rfl))))))))), pure_cross_hues T h⟩


/-! ### dicts of whole numbers, as lists -/
def lookS (ss : List (Int × Int)) (k : Int) : Option Int := (ss.find? fun p => decide (p.1 = k)).map (·.2)
theorem look_add {ss : List (Int × Int)} {k u j : Int} (h : lookS ss k = none) : lookS (ss ++ [(k, u)]) j = if j = k then some u else lookS ss j := by
  unfold lookS at *
  rw [List.find?_append]
  by_cases c : j = k
  · subst c
    rw [if_pos rfl]
    have : ss.find? (fun p => decide (p.1 = j)) = none := by
      cases z : ss.find? (fun p => decide (p.1 = j)) with
      | none => rfl
      | some x => rw [z] at h; cases h
    rw [this]
    simp
  · rw [if_neg c]
    have : [(k, u)].find? (fun p => decide (p.1 = j)) = none := by
      simp; exact fun z => c z.symm
    rw [this]
    simp
theorem look_nil (k : Int) : lookS [] k = none := rfl
def dS (ss : List (Int × Int)) : List (Key × V) := ss.map fun p => (.inl p.1, .int p.2)
theorem dS_val {ss : List (Int × Int)} {k : Int} : valV (dS ss) (.inl k) = (lookS ss k).map V.int := by
  unfold valV dS lookS
  induction ss with
  | nil => rfl
  | cons p r ih =>
    rw [List.map_cons, List.find?_cons, List.find?_cons]
    by_cases c : p.1 = k
    · simp [c]
    · have c' : (decide (p.1 = k)) = false := decide_eq_false c
      simp only [c']
      have : decide ((Sum.inl p.1 : Key) = Sum.inl k) = false := decide_eq_false fun z => c (by cases z; rfl)
      simp only [this]
      exact ih
theorem dS_put {ss : List (Int × Int)} {k u : Int} (h : lookS ss k = none) : putK (dS ss) (.inl k) (.int u) = dS (ss ++ [(k, u)]) := by
  unfold putK
  have hn : (dS ss).any (fun kv => decide (kv.1 = Sum.inl k)) = false := by
    rw [List.any_eq_false]
    intro x hx z
    unfold dS at hx
    obtain ⟨p, hp, rfl⟩ := List.mem_map.mp hx
    have z' : (Sum.inl p.1 : Key) = Sum.inl k := of_decide_eq_true z
    have e : p.1 = k := by cases z'; rfl
    unfold lookS at h
    cases y : ss.find? (fun p => decide (p.1 = k)) with
    | some a => rw [y] at h; cases h
    | none => exact absurd (decide_eq_true e) (by simpa using List.find?_eq_none.mp y p hp)
  rw [hn]
  unfold dS
  rw [List.map_append]
  rfl
theorem dS_len (ss : List (Int × Int)) : (dS ss).length = ss.length := by unfold dS; simp
theorem countP_lt {α : Type} {p q : α → Bool} : ∀ {l : List α}, (∀ x ∈ l, p x = true → q x = true) → (∃ x ∈ l, q x = true ∧ p x = false) → l.countP p < l.countP q
  | [], _, ⟨x, hx, _⟩ => by cases hx
  | a :: r, h, ⟨x, hx, h1, h2⟩ => by
    rw [List.countP_cons, List.countP_cons]
    have mono : r.countP p ≤ r.countP q := List.countP_mono_left fun y hy => h y (List.mem_cons_of_mem _ hy)
    rcases List.mem_cons.mp hx with rfl | hx
    · rw [h1, h2]; simp; omega
    · have ih := countP_lt (l := r) (fun y hy => h y (List.mem_cons_of_mem _ hy)) ⟨x, hx, h1, h2⟩
      have ha := h a List.mem_cons_self
      cases hp : p a with
      | false => simp; split <;> omega
      | true => rw [ha hp]; simp; omega
/-- numbers below n that are no keys -/
def frN (n : Nat) (ss : List (Int × Int)) : Nat := (List.range n).countP fun i : Nat => (lookS ss (i : Int)).isNone
theorem frN_lt {n : Nat} {ss : List (Int × Int)} {k u : Int} (k0 : 0 ≤ k) (k1 : k < n) (h : lookS ss k = none) : frN n (ss ++ [(k, u)]) < frN n ss := by
  refine countP_lt (fun i _ hi => ?_) ⟨k.toNat, List.mem_range.mpr (by omega), ?_, ?_⟩
  · rw [look_add h] at hi
    split at hi
    · cases hi
    · exact hi
  · rw [Int.toNat_of_nonneg k0, h]; rfl
  · rw [look_add h, Int.toNat_of_nonneg k0, if_pos rfl]; rfl
theorem frN_nil (n : Nat) : frN n [] = n := by
  show (List.range n).countP (fun _ => true) = n
  rw [List.countP_true, List.length_range]
/-! ### a way has at most two ties at a place -/
theorem bel_step {ps : List Int} (T : TreeOk ps) {k x : Nat} (hx : x < ps.length) : below ps k (x + 1) = (decide (k = x + 1) || (decide (k < x + 1) && below ps k (ps.getD x 0).toNat)) := by
  have h1 := (T.2.2 x hx).2
  have h0 := (T.2.2 x hx).1
  rw [below, dif_pos (by omega)]
theorem bel_or {ps : List Int} (T : TreeOk ps) {k x : Nat} (hx : x < ps.length) (h : below ps k (x + 1) = true) : k = x + 1 ∨ (k < x + 1 ∧ below ps k (ps.getD x 0).toNat = true) := by
  rw [bel_step T hx] at h
  simpa using h
theorem bel_le {ps : List Int} (T : TreeOk ps) {k : Nat} : ∀ {x : Nat}, x ≤ ps.length → below ps k x = true → k ≤ x
  | 0, _, h => by
    rw [below] at h
    have := of_decide_eq_true h
    omega
  | x + 1, hx, h => by
    rcases bel_or T hx h with z | z <;> omega
theorem bel_self (ps : List Int) (k : Nat) : below ps k k = true := by
  cases k with
  | zero => rw [below]; rfl
  | succ k => rw [below, decide_eq_true rfl]; rfl
theorem child_up {ps : List Int} (T : TreeOk ps) {j : Nat} (hj : j < ps.length) : ∀ (n x : Nat), x ≤ n → x ≤ ps.length → below ps (j + 1) x = true → below ps (ps.getD j 0).toNat x = true
  | _, 0, _, _, h => by
    rw [below] at h
    have := of_decide_eq_true h
    omega
  | 0, x + 1, hn, _, _ => by omega
  | n + 1, x + 1, hn, hx, h => by
    have h1 := (T.2.2 x hx).2
    have h0 := (T.2.2 x hx).1
    rw [bel_step T hx]
    rcases bel_or T hx h with z | ⟨_, z⟩
    · have e : j = x := by omega
      rw [e, bel_self, decide_eq_true (by omega : (ps.getD x 0).toNat < x + 1)]
      simp
    · have ih := child_up T hj n (ps.getD x 0).toNat (by omega) (by omega) z
      have := bel_le T (by omega) ih
      rw [ih, decide_eq_true (by omega : (ps.getD j 0).toNat < x + 1)]
      simp
theorem child_uniq {ps : List Int} (T : TreeOk ps) {j i : Nat} (hj : j < ps.length) (hi : i < ps.length) (e : ps.getD j 0 = ps.getD i 0) : ∀ (n x : Nat), x ≤ n → x ≤ ps.length → below ps (j + 1) x = true → below ps (i + 1) x = true → j = i
  | _, 0, _, _, h, _ => by
    rw [below] at h
    have := of_decide_eq_true h
    omega
  | 0, x + 1, hn, _, _, _ => by omega
  | n + 1, x + 1, hn, hx, h, h' => by
    have h1 := (T.2.2 x hx).2
    have h0 := (T.2.2 x hx).1
    have j1 := T.2.2 j hj
    have i1 := T.2.2 i hi
    rcases bel_or T hx h with z | ⟨_, z⟩ <;> rcases bel_or T hx h' with y | ⟨_, y⟩
    · omega
    · have ej : j = x := by omega
      subst ej
      have := bel_le T (by omega) y
      omega
    · have ei : i = x := by omega
      subst ei
      have := bel_le T (by omega) z
      omega
    · exact child_uniq T hj hi e n (ps.getD x 0).toNat (by omega) (by omega) z y
theorem two_atP {ps : List Int} (T : TreeOk ps) {a b : Nat} (ha : a ≤ ps.length) (hb : b ≤ ps.length) {p : Int} (p0 : 0 ≤ p) {t1 t2 t3 : Nat} (l1 : t1 < ps.length) (l2 : t2 < ps.length) (l3 : t3 < ps.length) (h1 : hereB ps p t1 = true) (h2 : hereB ps p t2 = true) (h3 : hereB ps p t3 = true)
    (x1 : below ps (t1 + 1) a ≠ below ps (t1 + 1) b) (x2 : below ps (t2 + 1) a ≠ below ps (t2 + 1) b) (x3 : below ps (t3 + 1) a ≠ below ps (t3 + 1) b) (n12 : t1 ≠ t2) (n13 : t1 ≠ t3) (n23 : t2 ≠ t3) : False := by
  have typ : ∀ t, hereB ps p t = true → below ps (t + 1) a ≠ below ps (t + 1) b → (t : Int) + 1 = p ∨ (ps.getD t 0 = p ∧ below ps (t + 1) a = true) ∨ (ps.getD t 0 = p ∧ below ps (t + 1) b = true) := fun t h x => by
    unfold hereB at h
    rw [Bool.or_eq_true, decide_eq_true_eq, decide_eq_true_eq] at h
    rcases h with h | h
    · exact .inl h
    · cases c : below ps (t + 1) a with
      | true => exact .inr (.inl ⟨h, rfl⟩)
      | false =>
        rw [c] at x
        exact .inr (.inr ⟨h, by cases d : below ps (t + 1) b with | true => rfl | false => exact absurd d.symm x⟩)
  have uA : ∀ {x t t' : Nat}, x ≤ ps.length → t < ps.length → t' < ps.length → ps.getD t 0 = p ∧ below ps (t + 1) x = true → ps.getD t' 0 = p ∧ below ps (t' + 1) x = true → t = t' := fun {x t t'} hx l l' y z => child_uniq T l l' (by rw [y.1, z.1]) x x (Nat.le_refl _) hx y.2 z.2
  have uUAB : ∀ {t t' t'' : Nat}, t' < ps.length → t'' < ps.length → (t : Int) + 1 = p → below ps (t + 1) a ≠ below ps (t + 1) b → ps.getD t' 0 = p ∧ below ps (t' + 1) a = true → ps.getD t'' 0 = p ∧ below ps (t'' + 1) b = true → False := fun {t t' t''} l' l'' u x y z => by
    have q1 := child_up T l' a a (Nat.le_refl _) ha y.2
    have q2 := child_up T l'' b b (Nat.le_refl _) hb z.2
    rw [y.1] at q1
    rw [z.1] at q2
    rw [show p.toNat = t + 1 by omega] at q1 q2
    exact x (by rw [q1, q2])
  rcases typ t1 h1 x1 with u1 | u1 | u1 <;> rcases typ t2 h2 x2 with u2 | u2 | u2 <;> rcases typ t3 h3 x3 with u3 | u3 | u3 <;>
    first
    | omega
    | exact n12 (uA ha l1 l2 u1 u2)
    | exact n12 (uA hb l1 l2 u1 u2)
    | exact n13 (uA ha l1 l3 u1 u3)
    | exact n13 (uA hb l1 l3 u1 u3)
    | exact n23 (uA ha l2 l3 u2 u3)
    | exact n23 (uA hb l2 l3 u2 u3)
    | exact uUAB l2 l3 u1 x1 u2 u3
    | exact uUAB l3 l2 u1 x1 u3 u2
    | exact uUAB l1 l3 u2 x2 u1 u3
    | exact uUAB l3 l1 u2 x2 u3 u1
    | exact uUAB l1 l2 u3 x3 u1 u2
    | exact uUAB l2 l1 u3 x3 u2 u1
theorem here_mem {ps : List Int} {p t : Int} (h : t ∈ hereOf ps p) : 0 ≤ t ∧ t < ps.length ∧ hereB ps p t.toNat = true := by
  unfold hereOf at h
  obtain ⟨k, hk, rfl⟩ := List.mem_map.mp h
  obtain ⟨h1, h2⟩ := List.mem_filter.mp hk
  have := List.mem_range.mp h1
  exact ⟨by omega, by omega, by rw [Int.toNat_natCast]; exact h2⟩
theorem wayAt_two {ps : List Int} (T : TreeOk ps) {p : Int} (p0 : 0 ≤ p) {w : Int × Int} (hw : isWay (.tree ps) w.1 w.2) : (wayAt ps p w).length ≤ 2 := by
  obtain ⟨_, a0, b0, a1, b1⟩ := hw
  have a1' : w.1 < ps.length + 1 := a1
  have b1' : w.2 < ps.length + 1 := b1
  unfold wayAt someOf
  rw [List.length_map]
  have srt := (treeTies_srt ps w).filter (fun t => decide (t ∈ hereOf ps p))
  have mem : ∀ t ∈ (treeTies ps w).filter (fun t => decide (t ∈ hereOf ps p)), t ∈ treeTies ps w ∧ t ∈ hereOf ps p := fun t ht => by
    obtain ⟨h1, h2⟩ := List.mem_filter.mp ht
    exact ⟨h1, of_decide_eq_true h2⟩
  generalize (treeTies ps w).filter (fun t => decide (t ∈ hereOf ps p)) = F at srt mem
  match F, srt, mem with
  | [], _, _ => simp
  | [_], _, _ => simp
  | [_, _], _, _ => simp
  | t1 :: t2 :: t3 :: r, srt, mem =>
    exfalso
    have m1 := mem t1 (by simp)
    have m2 := mem t2 (by simp)
    have m3 := mem t3 (by simp)
    obtain ⟨s1, s2⟩ := List.pairwise_cons.mp srt
    obtain ⟨s3, _⟩ := List.pairwise_cons.mp s2
    have q12 := s1 t2 (by simp)
    have q13 := s1 t3 (by simp)
    have q23 := s3 t3 (by simp)
    have c1 := here_mem m1.2
    have c2 := here_mem m2.2
    have c3 := here_mem m3.2
    have d1 : below ps (t1.toNat + 1) w.1.toNat ≠ below ps (t1.toNat + 1) w.2.toNat := (treeTies_mem.mp m1.1).2.2
    have d2 : below ps (t2.toNat + 1) w.1.toNat ≠ below ps (t2.toNat + 1) w.2.toNat := (treeTies_mem.mp m2.1).2.2
    have d3 : below ps (t3.toNat + 1) w.1.toNat ≠ below ps (t3.toNat + 1) w.2.toNat := (treeTies_mem.mp m3.1).2.2
    exact two_atP T (a := w.1.toNat) (b := w.2.toNat) (by omega) (by omega) p0 (t1 := t1.toNat) (t2 := t2.toNat) (t3 := t3.toNat) (by omega) (by omega) (by omega) c1.2.2 c2.2.2 c3.2.2 d1 d2 d3 (by omega) (by omega) (by omega)
theorem wayAt_mem {ps : List Int} {p : Int} {w : Int × Int} {k : Int} (k0 : 0 ≤ k) (k1 : k < (hereOf ps p).length) : k ∈ wayAt ps p w ↔ (hereOf ps p).getD k.toNat 0 ∈ treeTies ps w := by
  have lk : k.toNat < (hereOf ps p).length := by omega
  have eg : (hereOf ps p).getD k.toNat 0 = (hereOf ps p)[k.toNat] := by rw [List.getD_eq_getElem?_getD, List.getElem?_eq_getElem lk]; rfl
  rw [eg]
  unfold wayAt someOf
  rw [List.mem_map]
  constructor
  · rintro ⟨t, ht, e⟩
    obtain ⟨h1, h2⟩ := List.mem_filter.mp ht
    have h3 := of_decide_eq_true h2
    have lt := List.idxOf_lt_length_of_mem h3
    have : (hereOf ps p)[(hereOf ps p).idxOf t] = t := List.getElem_idxOf lt
    have e2 : k.toNat = (hereOf ps p).idxOf t := by omega
    simp only [e2, this]
    exact h1
  · intro h
    have hm : (hereOf ps p)[k.toNat] ∈ hereOf ps p := List.getElem_mem lk
    refine ⟨_, List.mem_filter.mpr ⟨h, decide_eq_true hm⟩, ?_⟩
    have lt := List.idxOf_lt_length_of_mem hm
    have eq : (hereOf ps p)[(hereOf ps p).idxOf (hereOf ps p)[k.toNat]] = (hereOf ps p)[k.toNat] := List.getElem_idxOf lt
    have srt := List.pairwise_iff_getElem.mp (here_srt ps p)
    generalize (hereOf ps p).idxOf (hereOf ps p)[k.toNat] = m at lt eq
    rcases Nat.lt_trichotomy m k.toNat with c | c | c
    · have := srt m k.toNat lt lk c; omega
    · omega
    · have := srt k.toNat m lk lt c; omega
/-! ### hues put together place by place -/
def numsA (W : Nat → Nat → List Int) (n p : Nat) : List Nat := (List.range n).filter fun i => !(W p i).isEmpty
def shareA (W : Nat → Nat → List Int) (p i j : Nat) : Prop := ∃ x, x ∈ W p i ∧ x ∈ W p j
def nm0F (G : Nat → Option Int) (nums : List Nat) (l : Nat → Int) : Nat → List (Int × Int)
  | 0 => []
  | k + 1 => match G (nums.getD k 0) with
    | some u => nm0F G nums l k ++ [(l k, u)]
    | none => nm0F G nums l k
def leftF (most : Nat) (nm : List (Int × Int)) : List Int := keepI most fun t => !decide ((t : Int) ∈ nm.map (·.2))
structure PSt where
  nm : List (Int × Int)
  lf : List Int
  G : Nat → Option Int
def stepF (nums : List Nat) (l : Nat → Int) (s : PSt) (k : Nat) : PSt :=
  let nm' := if lookS s.nm (l k) = none then s.nm ++ [(l k, s.lf.headD 0)] else s.nm
  ⟨nm', if lookS s.nm (l k) = none then s.lf.tail else s.lf, fun w => if w = nums.getD k 0 then lookS nm' (l k) else s.G w⟩
def runF (nums : List Nat) (l : Nat → Int) (s : PSt) : Nat → PSt
  | 0 => s
  | k + 1 => stepF nums l (runF nums l s k) k
def initF (most : Nat) (nums : List Nat) (l : Nat → Int) (G : Nat → Option Int) : PSt := ⟨nm0F G nums l nums.length, leftF most (nm0F G nums l nums.length), G⟩
def placeF (most : Nat) (nums : List Nat) (l : Nat → Int) (G : Nat → Option Int) : Nat → Option Int := (runF nums l (initF most nums l G) nums.length).G
def togF (W : Nat → Nat → List Int) (n most : Nat) (lst : Nat → Nat → Int) : Nat → Nat → Option Int
  | 0 => fun _ => none
  | p + 1 => placeF most (numsA W n p) (lst p) (togF W n most lst p)
theorem look_mem {ss : List (Int × Int)} {k u : Int} (h : lookS ss k = some u) : (k, u) ∈ ss := by
  unfold lookS at h
  obtain ⟨p, hp, e⟩ := Option.map_eq_some_iff.mp h
  have m := List.mem_of_find?_eq_some hp
  have ek : p.1 = k := by have := List.find?_some hp; exact of_decide_eq_true this
  rw [← ek, ← e]
  exact m
theorem look_none {ss : List (Int × Int)} {k : Int} (h : lookS ss k = none) : k ∉ ss.map (·.1) := fun m => by
  obtain ⟨p, hp, rfl⟩ := List.mem_map.mp m
  unfold lookS at h
  rw [Option.map_eq_none_iff, List.find?_eq_none] at h
  exact h p hp (decide_eq_true rfl)
theorem look_of {ss : List (Int × Int)} {k u : Int} (nd : (ss.map (·.1)).Nodup) (m : (k, u) ∈ ss) : lookS ss k = some u := by
  cases z : lookS ss k with
  | none => exact absurd (List.mem_map.mpr ⟨_, m, rfl⟩) (look_none z)
  | some v =>
    have m2 := look_mem z
    have key : ∀ {l : List (Int × Int)}, (l.map (·.1)).Nodup → (k, u) ∈ l → (k, v) ∈ l → u = v := by
      intro l
      induction l with
      | nil => intro _ h; cases h
      | cons p r ih =>
        intro nd h1 h2
        rw [List.map_cons, List.nodup_cons] at nd
        rcases List.mem_cons.mp h1 with e1 | h1 <;> rcases List.mem_cons.mp h2 with e2 | h2
        · rw [← e1] at e2; cases e2; rfl
        · rw [← e1] at nd; exact absurd (List.mem_map.mpr ⟨_, h2, rfl⟩) nd.1
        · rw [← e2] at nd; exact absurd (List.mem_map.mpr ⟨_, h1, rfl⟩) nd.1
        · exact ih nd.2 h1 h2
    rw [key nd m m2]
theorem ndl {l m : List Int} (nd : l.Nodup) (h : ∀ x ∈ l, x ∈ m) : l.length ≤ m.length := by
  induction l generalizing m with
  | nil => simp
  | cons a l ih =>
    have nd' := List.nodup_cons.mp nd
    have := ih (m := m.erase a) nd'.2 (fun x hx => (List.mem_erase_of_ne (fun e => nd'.1 (by rw [← e]; exact hx))).mpr (h x (List.mem_cons_of_mem _ hx)))
    rw [List.length_erase_of_mem (h a List.mem_cons_self)] at this
    have := List.length_pos_of_mem (h a List.mem_cons_self)
    simp only [List.length_cons]
    omega
theorem flen2 {α : Type} (p : α → Bool) : ∀ (W : List α), (W.filter p).length + (W.filter fun x => !p x).length = W.length
  | [] => rfl
  | x :: r => by
    have ih := flen2 p r
    rw [List.filter_cons, List.filter_cons]
    cases c : p x with
    | true => simp only [if_true, Bool.not_true, Bool.false_eq_true, if_false, List.length_cons]; omega
    | false => simp only [if_true, Bool.not_false, Bool.false_eq_true, if_false, List.length_cons]; omega
theorem left_len {most : Nat} {nm : List (Int × Int)} (nd : (nm.map (·.2)).Nodup) (hr : ∀ v : Int, v ∈ nm.map (·.2) → 0 ≤ v ∧ v < most) : (leftF most nm).length + nm.length = most := by
  have sp := flen2 (fun t : Nat => decide ((t : Int) ∈ nm.map (·.2))) (List.range most)
  have e1 : ((List.range most).filter fun t : Nat => decide ((t : Int) ∈ nm.map (·.2))).length = nm.length := by
    rw [← List.length_map (f := fun t : Nat => (t : Int)), ← List.length_map (f := fun p : Int × Int => p.2) (as := nm)]
    refine Nat.le_antisymm (ndl ?_ fun x hx => ?_) (ndl nd fun x hx => ?_)
    · refine List.pairwise_map.mpr ((List.nodup_range.filter _).imp fun h => ?_)
      exact fun z => h (Int.ofNat.inj z)
    · obtain ⟨t, ht, rfl⟩ := List.mem_map.mp hx
      exact of_decide_eq_true (List.mem_filter.mp ht).2
    · have := hr x hx
      exact List.mem_map.mpr ⟨x.toNat, List.mem_filter.mpr ⟨List.mem_range.mpr (by omega), decide_eq_true (by rw [Int.toNat_of_nonneg this.1]; exact hx)⟩, Int.toNat_of_nonneg this.1⟩
  rw [e1, List.length_range] at sp
  unfold leftF keepI
  rw [List.length_map]
  omega
/-- what holds behind k numbers of a place -/
structure PInv (most : Nat) (nums : List Nat) (l : Nat → Int) (G0 : Nat → Option Int) (k : Nat) (s : PSt) : Prop where
  keys : (s.nm.map (·.1)).Nodup
  vals : (s.nm.map (·.2)).Nodup
  frm : ∀ h ∈ s.nm.map (·.1), ∃ j, j < nums.length ∧ l j = h
  rng : ∀ v : Int, v ∈ s.nm.map (·.2) → 0 ≤ v ∧ v < most
  lnd : s.lf.Nodup
  lrng : ∀ v : Int, v ∈ s.lf → (0 ≤ v ∧ v < most) ∧ v ∉ s.nm.map (·.2)
  len : s.lf.length + s.nm.length = most
  done : ∀ j, j < k → ∃ u, lookS s.nm (l j) = some u ∧ s.G (nums.getD j 0) = some u
  rest : ∀ w, (∀ j, j < k → nums.getD j 0 ≠ w) → s.G w = G0 w
  old : ∀ j, j < nums.length → ∀ u, G0 (nums.getD j 0) = some u → lookS s.nm (l j) = some u
theorem nm0_mem {G : Nat → Option Int} {nums : List Nat} {l : Nat → Int} : ∀ {k : Nat} {p : Int × Int}, p ∈ nm0F G nums l k ↔ ∃ j, j < k ∧ l j = p.1 ∧ G (nums.getD j 0) = some p.2
  | 0, p => ⟨(fun h => by cases h), fun ⟨j, h, _⟩ => by omega⟩
  | k + 1, p => by
    have ih := nm0_mem (G := G) (nums := nums) (l := l) (k := k) (p := p)
    unfold nm0F
    cases z : G (nums.getD k 0) with
    | none =>
      simp only []
      rw [ih]
      constructor
      · rintro ⟨j, h1, h2⟩; exact ⟨j, by omega, h2⟩
      · rintro ⟨j, h1, h2, h3⟩
        by_cases c : j = k
        · rw [c, z] at h3; cases h3
        · exact ⟨j, by omega, h2, h3⟩
    | some u =>
      simp only []
      rw [List.mem_append, ih, List.mem_singleton]
      constructor
      · rintro (⟨j, h1, h2⟩ | rfl)
        · exact ⟨j, by omega, h2⟩
        · exact ⟨k, by omega, rfl, z⟩
      · rintro ⟨j, h1, h2, h3⟩
        by_cases c : j = k
        · rw [c] at h2
          rw [c, z] at h3
          refine .inr ?_
          cases p
          simp only [Option.some.injEq] at h2 h3 ⊢
          rw [h2, h3]
        · exact .inl ⟨j, by omega, h2, h3⟩
theorem nm0_nd {G : Nat → Option Int} {nums : List Nat} {l : Nat → Int} {f : Int × Int → Int} (hd : ∀ i j u v, i < j → j < nums.length → G (nums.getD i 0) = some u → G (nums.getD j 0) = some v → f (l i, u) ≠ f (l j, v)) : ∀ {k : Nat}, k ≤ nums.length → ((nm0F G nums l k).map f).Nodup
  | 0, _ => List.nodup_nil
  | k + 1, h => by
    have ih := nm0_nd hd (k := k) (by omega)
    unfold nm0F
    cases z : G (nums.getD k 0) with
    | none => exact ih
    | some u =>
      simp only []
      rw [List.map_append]
      refine List.nodup_append.mpr ⟨ih, by simp, fun x hx y hy e => ?_⟩
      obtain ⟨p, hp, rfl⟩ := List.mem_map.mp hx
      obtain ⟨j, h1, h2, h3⟩ := nm0_mem.mp hp
      have ey : y = f (l k, u) := by simpa using hy
      refine hd j k p.2 u h1 (by omega) h3 z ?_
      rw [h2, ← ey]
      exact e
theorem pinv_init {most : Nat} {nums : List Nat} {l : Nat → Int} {G : Nat → Option Int} (d1 : ∀ i j u v, i < j → j < nums.length → G (nums.getD i 0) = some u → G (nums.getD j 0) = some v → l i ≠ l j ∧ u ≠ v) (hr : ∀ w u, G w = some u → 0 ≤ u ∧ u < most) : PInv most nums l G 0 (initF most nums l G) := by
  have kd : ((nm0F G nums l nums.length).map (·.1)).Nodup := nm0_nd (f := fun p => p.1) (fun i j u v h1 h2 h3 h4 => (d1 i j u v h1 h2 h3 h4).1) (Nat.le_refl _)
  have vd : ((nm0F G nums l nums.length).map (·.2)).Nodup := nm0_nd (f := fun p => p.2) (fun i j u v h1 h2 h3 h4 => (d1 i j u v h1 h2 h3 h4).2) (Nat.le_refl _)
  have rg : ∀ v : Int, v ∈ (nm0F G nums l nums.length).map (·.2) → 0 ≤ v ∧ v < most := fun v hv => by
    obtain ⟨p, hp, rfl⟩ := List.mem_map.mp hv
    obtain ⟨j, _, _, h3⟩ := nm0_mem.mp hp
    exact hr _ _ h3
  refine ⟨kd, vd, fun h hh => ?_, rg, ?_, fun v hv => ?_, left_len vd rg, fun j hj => by omega, fun w _ => rfl, fun j hj u hu => ?_⟩
  · obtain ⟨p, hp, rfl⟩ := List.mem_map.mp hh
    obtain ⟨j, h1, h2, _⟩ := nm0_mem.mp hp
    exact ⟨j, h1, h2⟩
  · exact (keepI_srt _ _).imp fun h => by omega
  · obtain ⟨h1, h2, h3⟩ := keepI_mem.mp hv
    refine ⟨⟨h1, h2⟩, ?_⟩
    rw [Int.toNat_of_nonneg h1] at h3
    show v ∉ (nm0F G nums l nums.length).map (·.2)
    simpa using h3
  · exact look_of kd (nm0_mem.mpr ⟨j, hj, rfl, hu⟩)
/-- room for one more -/
theorem pinv_room {most : Nat} {nums : List Nat} {l : Nat → Int} {G : Nat → Option Int} {k : Nat} {s : PSt} (I : PInv most nums l G k s) (hk : k < nums.length) (hm : ∀ ks : List Int, ks.Nodup → (∀ h ∈ ks, ∃ j, j < nums.length ∧ l j = h) → ks.length ≤ most) (hn : lookS s.nm (l k) = none) : 0 < s.lf.length := by
  have := hm (l k :: s.nm.map (·.1)) (List.nodup_cons.mpr ⟨look_none hn, I.keys⟩) (fun h hh => by
    rcases List.mem_cons.mp hh with rfl | hh
    · exact ⟨k, hk, rfl⟩
    · exact I.frm h hh)
  have l := I.len
  rw [List.length_cons, List.length_map] at this
  omega
theorem pinv_step {most : Nat} {nums : List Nat} {l : Nat → Int} {G : Nat → Option Int} {k : Nat} {s : PSt} (I : PInv most nums l G k s) (hk : k < nums.length) (nd : nums.Nodup) (hm : ∀ ks : List Int, ks.Nodup → (∀ h ∈ ks, ∃ j, j < nums.length ∧ l j = h) → ks.length ≤ most) : PInv most nums l G (k + 1) (stepF nums l s k) := by
  have gd : ∀ {i j : Nat}, i < nums.length → j < nums.length → nums.getD i 0 = nums.getD j 0 → i = j := fun {i j} hi hj e => by
    rw [List.getD_eq_getElem?_getD, List.getD_eq_getElem?_getD, List.getElem?_eq_getElem hi, List.getElem?_eq_getElem hj] at e
    exact (List.nodup_iff_pairwise_ne.mp nd |> fun p => Classical.byContradiction fun ne => by
      rcases Nat.lt_or_gt_of_ne ne with c | c
      · exact List.pairwise_iff_getElem.mp p i j hi hj c e
      · exact List.pairwise_iff_getElem.mp p j i hj hi c e.symm)
  cases hn : lookS s.nm (l k) with
  | some u =>
    have es : stepF nums l s k = ⟨s.nm, s.lf, fun w => if w = nums.getD k 0 then some u else s.G w⟩ := by
      unfold stepF
      simp only [hn, reduceCtorEq, if_false]
    rw [es]
    refine ⟨I.keys, I.vals, I.frm, I.rng, I.lnd, I.lrng, I.len, fun j hj => ?_, fun w hw => ?_, I.old⟩
    · by_cases c : j = k
      · subst c
        exact ⟨u, hn, if_pos rfl⟩
      · obtain ⟨v, h1, h2⟩ := I.done j (by omega)
        refine ⟨v, h1, ?_⟩
        show (if nums.getD j 0 = nums.getD k 0 then some u else s.G (nums.getD j 0)) = some v
        rw [if_neg (fun e => c (gd (by omega) hk e))]
        exact h2
    · show (if w = nums.getD k 0 then some u else s.G w) = G w
      rw [if_neg (fun e => hw k (by omega) e.symm)]
      exact I.rest w fun j hj => hw j (by omega)
  | none =>
    have pos := pinv_room I hk hm hn
    obtain ⟨a, r, elf⟩ : ∃ a r, s.lf = a :: r := by
      cases z : s.lf with
      | nil => rw [z] at pos; simp at pos
      | cons a r => exact ⟨a, r, rfl⟩
    have la : lookS (s.nm ++ [(l k, a)]) (l k) = some a := by rw [look_add hn, if_pos rfl]
    have es : stepF nums l s k = ⟨s.nm ++ [(l k, a)], r, fun w => if w = nums.getD k 0 then some a else s.G w⟩ := by
      unfold stepF
      simp only [hn, if_true, elf, List.headD_cons, List.tail_cons, la]
    have ha := I.lrng a (by rw [elf]; exact List.mem_cons_self)
    have nd2 := I.lnd
    rw [elf, List.nodup_cons] at nd2
    have ln := I.len
    rw [elf, List.length_cons] at ln
    rw [es]
    have kap : ∀ x, x ∈ (s.nm ++ [(l k, a)]).map (·.1) ↔ x ∈ s.nm.map (·.1) ∨ x = l k := fun x => by rw [List.map_append, List.mem_append]; simp
    have vap : ∀ x, x ∈ (s.nm ++ [(l k, a)]).map (·.2) ↔ x ∈ s.nm.map (·.2) ∨ x = a := fun x => by rw [List.map_append, List.mem_append]; simp
    have keep : ∀ {h v : Int}, lookS s.nm h = some v → lookS (s.nm ++ [(l k, a)]) h = some v := fun {h v} e => by
      rw [look_add hn]
      by_cases c : h = l k
      · rw [c, hn] at e; cases e
      · rw [if_neg c]; exact e
    refine ⟨?_, ?_, fun h hh => ?_, fun v hv => ?_, nd2.2, fun v hv => ?_, ?_, fun j hj => ?_, fun w hw => ?_, fun j hj v hv => keep (I.old j hj v hv)⟩
    · show ((s.nm ++ [(l k, a)]).map (·.1)).Nodup
      rw [List.map_append]
      refine List.nodup_append.mpr ⟨I.keys, by simp, fun x hx y hy e => ?_⟩
      have : y = l k := by simpa using hy
      exact look_none hn (by rw [← this, ← e]; exact hx)
    · show ((s.nm ++ [(l k, a)]).map (·.2)).Nodup
      rw [List.map_append]
      refine List.nodup_append.mpr ⟨I.vals, by simp, fun x hx y hy e => ?_⟩
      have : y = a := by simpa using hy
      exact ha.2 (by rw [← this, ← e]; exact hx)
    · rcases (kap h).mp hh with hh | rfl
      · exact I.frm h hh
      · exact ⟨k, hk, rfl⟩
    · rcases (vap v).mp hv with hv | rfl
      · exact I.rng v hv
      · exact ha.1
    · have := I.lrng v (by rw [elf]; exact List.mem_cons_of_mem _ hv)
      refine ⟨this.1, fun z => ?_⟩
      rcases (vap v).mp z with z | rfl
      · exact this.2 z
      · exact nd2.1 hv
    · show r.length + (s.nm ++ [(l k, a)]).length = most
      rw [List.length_append, List.length_singleton]
      omega
    · by_cases c : j = k
      · subst c
        exact ⟨a, la, if_pos rfl⟩
      · obtain ⟨v, h1, h2⟩ := I.done j (by omega)
        refine ⟨v, keep h1, ?_⟩
        show (if nums.getD j 0 = nums.getD k 0 then some a else s.G (nums.getD j 0)) = some v
        rw [if_neg (fun e => c (gd (by omega) hk e))]
        exact h2
    · show (if w = nums.getD k 0 then some a else s.G w) = G w
      rw [if_neg (fun e => hw k (by omega) e.symm)]
      exact I.rest w fun j hj => hw j (by omega)
theorem pinv_run {most : Nat} {nums : List Nat} {l : Nat → Int} {G : Nat → Option Int} {s : PSt} (I : PInv most nums l G 0 s) (nd : nums.Nodup) (hm : ∀ ks : List Int, ks.Nodup → (∀ h ∈ ks, ∃ j, j < nums.length ∧ l j = h) → ks.length ≤ most) : ∀ {k : Nat}, k ≤ nums.length → PInv most nums l G k (runF nums l s k)
  | 0, _ => I
  | k + 1, h => pinv_step (pinv_run I nd hm (by omega)) (by omega) nd hm
/-- what is asked of the lists and of the ways at the places -/
structure TogOk (W : Nat → Nat → List Int) (n P most : Nat) (lst : Nat → Nat → Int) : Prop where
  right : ∀ p, p < P → ∀ k j, k < (numsA W n p).length → j < (numsA W n p).length → k ≠ j → shareA W p ((numsA W n p).getD k 0) ((numsA W n p).getD j 0) → lst p k ≠ lst p j
  back : ∀ p, p < P → ∀ i j, i < n → j < n → i ≠ j → W p i ≠ [] → W p j ≠ [] → (∃ q, q < p ∧ W q i ≠ []) → (∃ q, q < p ∧ W q j ≠ []) → shareA W p i j ∧ ∃ q, q < p ∧ shareA W q i j
  room : ∀ p, p < P → ∀ ks : List Int, ks.Nodup → (∀ h ∈ ks, ∃ j, j < (numsA W n p).length ∧ lst p j = h) → ks.length ≤ most
structure TInv (W : Nat → Nat → List Int) (n most p : Nat) (G : Nat → Option Int) : Prop where
  dom : ∀ i, (∃ u, G i = some u) ↔ i < n ∧ ∃ q, q < p ∧ W q i ≠ []
  ap : ∀ i j, i ≠ j → ∀ q, q < p → shareA W q i j → ∀ u v, G i = some u → G j = some v → u ≠ v
  rng : ∀ i u, G i = some u → 0 ≤ u ∧ u < most
theorem nums_nd (W : Nat → Nat → List Int) (n p : Nat) : (numsA W n p).Nodup := List.nodup_range.filter _
theorem nums_mem {W : Nat → Nat → List Int} {n p i : Nat} : i ∈ numsA W n p ↔ i < n ∧ W p i ≠ [] := by
  unfold numsA
  rw [List.mem_filter, List.mem_range]
  cases z : W p i <;> simp
theorem getD_nums {W : Nat → Nat → List Int} {n p k : Nat} (h : k < (numsA W n p).length) : (numsA W n p).getD k 0 < n ∧ W p ((numsA W n p).getD k 0) ≠ [] := by
  have : (numsA W n p).getD k 0 ∈ numsA W n p := by
    rw [List.getD_eq_getElem?_getD, List.getElem?_eq_getElem h]
    exact List.getElem_mem h
  exact nums_mem.mp this
theorem nums_at {W : Nat → Nat → List Int} {n p i : Nat} (h : i ∈ numsA W n p) : ∃ k, k < (numsA W n p).length ∧ (numsA W n p).getD k 0 = i := by
  obtain ⟨k, hk, e⟩ := List.mem_iff_getElem.mp h
  exact ⟨k, hk, by rw [List.getD_eq_getElem?_getD, List.getElem?_eq_getElem hk]; exact e⟩
theorem getD_inj {l : List Nat} (nd : l.Nodup) {i j : Nat} (hi : i < l.length) (hj : j < l.length) (ne : i ≠ j) : l.getD i 0 ≠ l.getD j 0 := fun e => by
  rw [List.getD_eq_getElem?_getD, List.getD_eq_getElem?_getD, List.getElem?_eq_getElem hi, List.getElem?_eq_getElem hj] at e
  rcases Nat.lt_or_gt_of_ne ne with c | c
  · exact List.pairwise_iff_getElem.mp nd i j hi hj c e
  · exact List.pairwise_iff_getElem.mp nd j i hj hi c e.symm
/-- at a place: what was given before is apart there, too -/
theorem place_start {W : Nat → Nat → List Int} {n P most p : Nat} {lst : Nat → Nat → Int} {G : Nat → Option Int} (ok : TogOk W n P most lst) (hp : p < P) (I : TInv W n most p G) : PInv most (numsA W n p) (lst p) G 0 (initF most (numsA W n p) (lst p) G) := by
  refine pinv_init (fun i j u v hij hj hu hv => ?_) I.rng
  have ai := getD_nums (show i < (numsA W n p).length by omega)
  have aj := getD_nums hj
  have ne := getD_inj (nums_nd W n p) (show i < (numsA W n p).length by omega) hj (by omega)
  have di := ((I.dom _).mp ⟨u, hu⟩).2
  have dj := ((I.dom _).mp ⟨v, hv⟩).2
  obtain ⟨s1, q, hq, s2⟩ := ok.back p hp _ _ ai.1 aj.1 ne ai.2 aj.2 di dj
  exact ⟨ok.right p hp i j (by omega) hj (by omega) s1, I.ap _ _ ne q hq s2 u v hu hv⟩
theorem place_run {W : Nat → Nat → List Int} {n P most p : Nat} {lst : Nat → Nat → Int} {G : Nat → Option Int} (ok : TogOk W n P most lst) (hp : p < P) (I : TInv W n most p G) {k : Nat} (hk : k ≤ (numsA W n p).length) : PInv most (numsA W n p) (lst p) G k (runF (numsA W n p) (lst p) (initF most (numsA W n p) (lst p) G) k) :=
  pinv_run (place_start ok hp I) (nums_nd W n p) (ok.room p hp) hk
theorem place_next {W : Nat → Nat → List Int} {n P most p : Nat} {lst : Nat → Nat → Int} {G : Nat → Option Int} (ok : TogOk W n P most lst) (hp : p < P) (I : TInv W n most p G) : TInv W n most (p + 1) (placeF most (numsA W n p) (lst p) G) := by
  have R := place_run ok hp I (Nat.le_refl _)
  have eG : placeF most (numsA W n p) (lst p) G = (runF (numsA W n p) (lst p) (initF most (numsA W n p) (lst p) G) (numsA W n p).length).G := rfl
  rw [eG]
  generalize runF (numsA W n p) (lst p) (initF most (numsA W n p) (lst p) G) (numsA W n p).length = s at R
  have here : ∀ {i}, i ∈ numsA W n p → ∃ k u, k < (numsA W n p).length ∧ (numsA W n p).getD k 0 = i ∧ lookS s.nm (lst p k) = some u ∧ s.G i = some u := fun {i} hi => by
    obtain ⟨k, hk, e⟩ := nums_at hi
    obtain ⟨u, h1, h2⟩ := R.done k hk
    exact ⟨k, u, hk, e, h1, by rw [← e]; exact h2⟩
  have there : ∀ {i}, i ∉ numsA W n p → s.G i = G i := fun {i} hi => R.rest i fun j hj e => hi (by
    rw [← e]
    have := getD_nums hj
    exact nums_mem.mpr this)
  have oldG : ∀ {i u}, G i = some u → s.G i = some u := fun {i u} h => by
    by_cases c : i ∈ numsA W n p
    · obtain ⟨k, v, hk, e, h1, h2⟩ := here c
      have := R.old k hk u (by rw [e]; exact h)
      rw [this] at h1
      rw [h2, ← h1]
    · rw [there c]; exact h
  refine ⟨fun i => ?_, fun i j ne q hq sh u v hu hv => ?_, fun i u hu => ?_⟩
  · constructor
    · rintro ⟨u, hu⟩
      by_cases c : i ∈ numsA W n p
      · exact ⟨(nums_mem.mp c).1, p, by omega, (nums_mem.mp c).2⟩
      · rw [there c] at hu
        obtain ⟨h1, q, h2, h3⟩ := (I.dom i).mp ⟨u, hu⟩
        exact ⟨h1, q, by omega, h3⟩
    · rintro ⟨h1, q, h2, h3⟩
      by_cases c : i ∈ numsA W n p
      · obtain ⟨_, u, _, _, _, h⟩ := here c
        exact ⟨u, h⟩
      · have : q ≠ p := fun e => c (nums_mem.mpr ⟨h1, by rw [← e]; exact h3⟩)
        obtain ⟨u, hu⟩ := (I.dom i).mpr ⟨h1, q, by omega, h3⟩
        exact ⟨u, oldG hu⟩
  · have lt : ∀ {i u}, s.G i = some u → i < n := fun {i u} h => by
      by_cases c : i ∈ numsA W n p
      · exact (nums_mem.mp c).1
      · rw [there c] at h
        exact ((I.dom i).mp ⟨u, h⟩).1
    by_cases c : q < p
    · obtain ⟨x, hx1, hx2⟩ := sh
      obtain ⟨u', hu'⟩ := (I.dom i).mpr ⟨lt hu, q, c, fun e => by rw [e] at hx1; cases hx1⟩
      obtain ⟨v', hv'⟩ := (I.dom j).mpr ⟨lt hv, q, c, fun e => by rw [e] at hx2; cases hx2⟩
      have := I.ap i j ne q c ⟨x, hx1, hx2⟩ u' v' hu' hv'
      rw [oldG hu'] at hu
      rw [oldG hv'] at hv
      cases hu; cases hv
      exact this
    · obtain rfl : q = p := by omega
      obtain ⟨x, hx1, hx2⟩ := sh
      have mi : i ∈ numsA W n q := nums_mem.mpr ⟨lt hu, fun e => by rw [e] at hx1; cases hx1⟩
      have mj : j ∈ numsA W n q := nums_mem.mpr ⟨lt hv, fun e => by rw [e] at hx2; cases hx2⟩
      obtain ⟨k, u', hk, ek, k1, k2⟩ := here mi
      obtain ⟨m, v', hm, em, m1, m2⟩ := here mj
      have eu : u' = u := by rw [k2] at hu; exact Option.some.inj hu
      have ev : v' = v := by rw [m2] at hv; exact Option.some.inj hv
      intro e
      have nkm : k ≠ m := fun z => ne (by rw [← ek, ← em, z])
      have nl := ok.right q hp k m hk hm nkm (by rw [ek, em]; exact ⟨x, hx1, hx2⟩)
      -- unlike names have unlike hues
      have a1 := look_mem k1
      have a2 := look_mem m1
      rw [eu, e, ← ev] at a1
      have key : ∀ {l : List (Int × Int)}, (l.map (·.2)).Nodup → (lst q k, v') ∈ l → (lst q m, v') ∈ l → lst q k = lst q m := by
        intro l
        induction l with
        | nil => intro _ h; cases h
        | cons p r ih =>
          intro nd h1 h2
          rw [List.map_cons, List.nodup_cons] at nd
          rcases List.mem_cons.mp h1 with e1 | h1 <;> rcases List.mem_cons.mp h2 with e2 | h2
          · rw [← e1] at e2
            injection e2 with e2 _
            exact e2.symm
          · rw [← e1] at nd; exact absurd (List.mem_map.mpr ⟨_, h2, rfl⟩) nd.1
          · rw [← e2] at nd; exact absurd (List.mem_map.mpr ⟨_, h1, rfl⟩) nd.1
          · exact ih nd.2 h1 h2
      exact nl (key R.vals a1 a2)
  · by_cases c : i ∈ numsA W n p
    · obtain ⟨k, v, _, _, h1, h2⟩ := here c
      rw [h2] at hu
      cases hu
      exact R.rng _ (List.mem_map.mpr ⟨_, look_mem h1, rfl⟩)
    · rw [there c] at hu
      exact I.rng i u hu
theorem tog_inv {W : Nat → Nat → List Int} {n P most : Nat} {lst : Nat → Nat → Int} (ok : TogOk W n P most lst) : ∀ {p : Nat}, p ≤ P → TInv W n most p (togF W n most lst p)
  | 0, _ => ⟨fun i => ⟨(fun ⟨u, h⟩ => by cases h), (fun ⟨_, q, h, _⟩ => by omega)⟩, (fun i j _ q h => by omega), fun i u h => by cases h⟩
  | p + 1, h => place_next ok (by omega) (tog_inv ok (by omega))
/-! ### hues of trees put together -/
theorem bel_trans {ps : List Int} (T : TreeOk ps) {k m : Nat} : ∀ (n c : Nat), c ≤ n → c ≤ ps.length → below ps k m = true → below ps m c = true → below ps k c = true
  | _, 0, _, _, h1, h2 => by
    rw [below] at h2
    have := of_decide_eq_true h2
    rw [← this]; exact h1
  | 0, c + 1, h, _, _, _ => by omega
  | n + 1, x + 1, hn, hx, h1, h2 => by
    have t1 := (T.2.2 x hx).2
    have t0 := (T.2.2 x hx).1
    rcases bel_or T hx h2 with z | ⟨_, z⟩
    · rw [← z]; exact h1
    · have ih := bel_trans T n (ps.getD x 0).toNat (by omega) (by omega) h1 z
      have := bel_le T (by omega) ih
      rw [bel_step T hx, ih, decide_eq_true (by omega : k < x + 1)]
      simp
theorem bel_comp {ps : List Int} (T : TreeOk ps) {k m : Nat} (hkm : k ≤ m) : ∀ (n c : Nat), c ≤ n → c ≤ ps.length → below ps k c = true → below ps m c = true → below ps k m = true
  | _, 0, _, _, h1, h2 => by
    rw [below] at h1 h2
    have a := of_decide_eq_true h1
    have b := of_decide_eq_true h2
    rw [a, b]; exact bel_self ps 0
  | 0, c + 1, h, _, _, _ => by omega
  | n + 1, x + 1, hn, hx, h1, h2 => by
    have t1 := (T.2.2 x hx).2
    have t0 := (T.2.2 x hx).1
    rcases bel_or T hx h2 with z | ⟨zl, z⟩
    · rw [z]; exact h1
    · rcases bel_or T hx h1 with y | ⟨_, y⟩
      · omega
      · exact bel_comp T hkm n (ps.getD x 0).toNat (by omega) (by omega) y z
/-- a way with a tie at a place, and one at a lesser place, goes to that place's parent -/
theorem tie_back {ps : List Int} (T : TreeOk ps) {a b p q t s : Nat} (ha : a ≤ ps.length) (hb : b ≤ ps.length) (hp : p ≤ ps.length) (hq : q < p) (lt : t < ps.length) (ls : s < ps.length) (h1 : hereB ps (p : Nat) t = true) (h2 : hereB ps (q : Nat) s = true)
    (x1 : below ps (t + 1) a ≠ below ps (t + 1) b) (x2 : below ps (s + 1) a ≠ below ps (s + 1) b) : below ps p a ≠ below ps p b := fun e => by
  unfold hereB at h1 h2
  rw [Bool.or_eq_true, decide_eq_true_eq, decide_eq_true_eq] at h1 h2
  have up : ∀ c, c ≤ ps.length → below ps (t + 1) c = true → below ps p c = true := fun c hc h => by
    rcases h1 with z | z
    · rw [show p = t + 1 by omega]; exact h
    · have := child_up T lt c c (Nat.le_refl _) hc h
      rw [z] at this
      exact this
  cases ea : below ps p a with
  | false =>
    rw [ea] at e
    cases c1 : below ps (t + 1) a with
    | true => rw [up a ha c1] at ea; cases ea
    | false =>
      cases c2 : below ps (t + 1) b with
      | true => rw [up b hb c2] at e; cases e
      | false => exact x1 (by rw [c1, c2])
  | true =>
    rw [ea] at e
    have key : ∀ c d, c ≤ ps.length → d ≤ ps.length → below ps p c = true → below ps p d = true → below ps (s + 1) c = true → below ps (s + 1) d = false → False := fun c d hc hd pc pd sc sd => by
      by_cases z : s + 1 ≤ p
      · have := bel_comp T z c c (Nat.le_refl _) hc sc pc
        have := bel_trans T d d (Nat.le_refl _) hd this pd
        rw [this] at sd; cases sd
      · have := bel_comp T (show p ≤ s + 1 by omega) c c (Nat.le_refl _) hc pc sc
        rcases bel_or T ls this with y | ⟨_, y⟩
        · omega
        · have := bel_le T (by have := T.2.2 s ls; omega) y
          rcases h2 with w | w
          · omega
          · rw [w] at this
            omega
    cases c1 : below ps (s + 1) a with
    | true =>
      cases c2 : below ps (s + 1) b with
      | true => exact x2 (by rw [c1, c2])
      | false => exact key a b ha hb ea e.symm c1 c2
    | false =>
      cases c2 : below ps (s + 1) b with
      | true => exact key b a hb ha e.symm ea c2 c1
      | false => exact x2 (by rw [c1, c2])
/-- the ties of the ways at the places -/
def WA (ps : List Int) (ws : List (Int × Int)) (p i : Nat) : List Int := wayAt ps (p : Int) (ws.getD i (0, 0))
theorem at_of {ps : List Int} {q t : Int} {w : Int × Int} (h : t ∈ hereOf ps q) (ht : t ∈ treeTies ps w) : (((hereOf ps q).idxOf t : Nat) : Int) ∈ wayAt ps q w := by
  unfold wayAt someOf
  exact List.mem_map.mpr ⟨t, List.mem_filter.mpr ⟨ht, decide_eq_true h⟩, rfl⟩
theorem here_of {ps : List Int} {q : Int} {t : Nat} (lt : t < ps.length) (h : hereB ps q t = true) : (t : Int) ∈ hereOf ps q := by
  unfold hereOf
  exact List.mem_map.mpr ⟨t, List.mem_filter.mpr ⟨List.mem_range.mpr lt, h⟩, rfl⟩
theorem at_tie {ps : List Int} {q : Int} {w : Int × Int} (h : wayAt ps q w ≠ []) : ∃ t : Nat, t < ps.length ∧ hereB ps q t = true ∧ below ps (t + 1) w.1.toNat ≠ below ps (t + 1) w.2.toNat := by
  obtain ⟨x, hx⟩ := List.exists_mem_of_ne_nil _ h
  unfold wayAt someOf at hx
  obtain ⟨t, ht, _⟩ := List.mem_map.mp hx
  obtain ⟨h1, h2⟩ := List.mem_filter.mp ht
  obtain ⟨a1, a2, a3⟩ := here_mem (of_decide_eq_true h2)
  exact ⟨t.toNat, by omega, a3, (treeTies_mem.mp h1).2.2⟩
theorem tt_of {ps : List Int} {w : Int × Int} {t : Nat} (lt : t < ps.length) (h : below ps (t + 1) w.1.toNat ≠ below ps (t + 1) w.2.toNat) : (t : Int) ∈ treeTies ps w := treeTies_mem.mpr ⟨by omega, by omega, by rw [Int.toNat_natCast]; exact h⟩
theorem WA_back {ps : List Int} (T : TreeOk ps) {ws : List (Int × Int)} (hok : ∀ w ∈ ws, isWay (.tree ps) w.1 w.2) {p i j : Nat} (hp : p < ps.length + 1) (hi : i < ws.length) (hj : j < ws.length) (ai : WA ps ws p i ≠ []) (aj : WA ps ws p j ≠ []) (bi : ∃ q, q < p ∧ WA ps ws q i ≠ []) (bj : ∃ q, q < p ∧ WA ps ws q j ≠ []) : shareA (WA ps ws) p i j ∧ ∃ q, q < p ∧ shareA (WA ps ws) q i j := by
  obtain ⟨q1, hq1, bi⟩ := bi
  obtain ⟨q2, hq2, bj⟩ := bj
  have rng : ∀ {i}, i < ws.length → (ws.getD i (0, 0)).1.toNat ≤ ps.length ∧ (ws.getD i (0, 0)).2.toNat ≤ ps.length := fun {i} hi => by
    have m : ws.getD i (0, 0) ∈ ws := by rw [List.getD_eq_getElem?_getD, List.getElem?_eq_getElem hi]; exact List.getElem_mem hi
    obtain ⟨_, a0, b0, a1, b1⟩ := hok _ m
    have a1' : (ws.getD i (0, 0)).1 < ps.length + 1 := a1
    have b1' : (ws.getD i (0, 0)).2 < ps.length + 1 := b1
    omega
  have on : ∀ {i q}, i < ws.length → WA ps ws p i ≠ [] → q < p → WA ps ws q i ≠ [] → ((p - 1 : Nat) : Int) ∈ treeTies ps (ws.getD i (0, 0)) := fun {i q} hi h1 hq h2 => by
    obtain ⟨t, lt, ht, xt⟩ := at_tie h1
    obtain ⟨s, ls, hs, xs⟩ := at_tie h2
    obtain ⟨r1, r2⟩ := rng hi
    have := tie_back T r1 r2 (by omega) hq lt ls ht hs xt xs
    refine tt_of (by omega) ?_
    rw [show p - 1 + 1 = p by omega]
    exact this
  have oi := on hi ai hq1 bi
  have oj := on hj aj hq2 bj
  have lp : p - 1 < ps.length := by omega
  have par := T.2.2 (p - 1) lp
  have hp1 : ((p - 1 : Nat) : Int) ∈ hereOf ps (p : Int) := here_of lp (by unfold hereB; rw [decide_eq_true (by omega)]; rfl)
  have hp2 : ((p - 1 : Nat) : Int) ∈ hereOf ps (((ps.getD (p - 1) 0).toNat : Nat) : Int) := here_of lp (by
    unfold hereB
    rw [show (((ps.getD (p - 1) 0).toNat : Nat) : Int) = ps.getD (p - 1) 0 by omega, decide_eq_true (rfl : ps.getD (p - 1) 0 = ps.getD (p - 1) 0)]
    simp)
  exact ⟨⟨_, at_of hp1 oi, at_of hp1 oj⟩, (ps.getD (p - 1) 0).toNat, by omega, _, at_of hp2 oi, at_of hp2 oj⟩
/-- a common tie is shared at a place -/
theorem WA_share {ps : List Int} (T : TreeOk ps) {ws : List (Int × Int)} {i j : Nat} {t : Int} (h1 : t ∈ treeTies ps (ws.getD i (0, 0))) (h2 : t ∈ treeTies ps (ws.getD j (0, 0))) : ∃ q, q < ps.length + 1 ∧ shareA (WA ps ws) q i j := by
  have a := treeTies_mem.mp h1
  have a0 : 0 ≤ t := a.1
  have a1 : t < ps.length := a.2.1
  have hh : t ∈ hereOf ps ((t.toNat + 1 : Nat) : Int) := by
    have := here_of (ps := ps) (q := ((t.toNat + 1 : Nat) : Int)) (t := t.toNat) (by omega) (by unfold hereB; rw [decide_eq_true (by omega)]; rfl)
    rwa [Int.toNat_of_nonneg a0] at this
  exact ⟨t.toNat + 1, by omega, _, at_of hh h1, at_of hh h2⟩
/-- each way has a tie -/
theorem WA_some {ps : List Int} (T : TreeOk ps) {ws : List (Int × Int)} (hok : ∀ w ∈ ws, isWay (.tree ps) w.1 w.2) {i : Nat} (hi : i < ws.length) : ∃ q, q < ps.length + 1 ∧ WA ps ws q i ≠ [] := by
  have m : ws.getD i (0, 0) ∈ ws := by rw [List.getD_eq_getElem?_getD, List.getElem?_eq_getElem hi]; exact List.getElem_mem hi
  obtain ⟨ne, a0, b0, a1, b1⟩ := hok _ m
  have a1' : (ws.getD i (0, 0)).1 < ps.length + 1 := a1
  have b1' : (ws.getD i (0, 0)).2 < ps.length + 1 := b1
  have big : ∀ {c d : Nat}, c < d → d ≤ ps.length → below ps d c = false := fun {c d} h hd => by
    cases z : below ps d c with
    | false => rfl
    | true => have := bel_le T (by omega) z; omega
  have key : ∀ t : Nat, t < ps.length → below ps (t + 1) (ws.getD i (0, 0)).1.toNat ≠ below ps (t + 1) (ws.getD i (0, 0)).2.toNat → ∃ q, q < ps.length + 1 ∧ WA ps ws q i ≠ [] := fun t lt h => by
    have hh : (t : Int) ∈ hereOf ps ((t + 1 : Nat) : Int) := here_of lt (by unfold hereB; rw [decide_eq_true (by omega)]; rfl)
    exact ⟨t + 1, by omega, fun e => by
      have := at_of hh (tt_of lt h)
      unfold WA at e
      rw [e] at this
      cases this⟩
  by_cases c : (ws.getD i (0, 0)).1 < (ws.getD i (0, 0)).2
  · refine key ((ws.getD i (0, 0)).2.toNat - 1) (by omega) ?_
    rw [show (ws.getD i (0, 0)).2.toNat - 1 + 1 = (ws.getD i (0, 0)).2.toNat by omega, bel_self, big (by omega) (by omega)]
    decide
  · refine key ((ws.getD i (0, 0)).1.toNat - 1) (by omega) ?_
    rw [show (ws.getD i (0, 0)).1.toNat - 1 + 1 = (ws.getD i (0, 0)).1.toNat by omega, bel_self, big (by omega) (by omega)]
    decide
theorem WA_nums (ps : List Int) (ws : List (Int × Int)) (p : Nat) : crNums ps (p : Int) ws ws.length = (numsA (WA ps ws) ws.length p).map fun i : Nat => (i : Int) := by
  unfold crNums numsA
  congr 1
  refine List.filter_congr fun i hi => ?_
  have hi' := List.mem_range.mp hi
  have e : ws[i]? = some (ws.getD i (0, 0)) := by rw [List.getD_eq_getElem?_getD, List.getElem?_eq_getElem hi']; rfl
  rw [e]
  show (!decide (wayAt ps (p : Int) (ws.getD i (0, 0)) = [])) = !(wayAt ps (p : Int) (ws.getD i (0, 0))).isEmpty
  cases wayAt ps (p : Int) (ws.getD i (0, 0)) <;> simp
theorem WA_pairs (ps : List Int) (ws : List (Int × Int)) (p : Nat) : crPairs ps (p : Int) ws = (numsA (WA ps ws) ws.length p).map fun i => ends (WA ps ws p i) := by
  have key : ∀ n, n ≤ ws.length → crPairs ps (p : Int) (ws.take n) = (numsA (WA ps ws) n p).map fun i => ends (WA ps ws p i) := by
    intro n
    induction n with
    | zero => intro _; rfl
    | succ n ih =>
      intro h
      have e : ws[n]? = some (ws.getD n (0, 0)) := by rw [List.getD_eq_getElem?_getD, List.getElem?_eq_getElem (by omega)]; rfl
      rw [crPairs_succ e, ih (by omega)]
      unfold numsA
      rw [List.range_succ, List.filter_append, List.map_append]
      congr 1
      show (if wayAt ps (p : Int) (ws.getD n (0, 0)) = [] then [] else [ends (wayAt ps (p : Int) (ws.getD n (0, 0)))]) = _
      by_cases c : WA ps ws p n = []
      · have c' : wayAt ps (p : Int) (ws.getD n (0, 0)) = [] := c
        rw [if_pos c', List.filter_cons, if_neg (by rw [c]; decide)]
        rfl
      · have c' : ¬ wayAt ps (p : Int) (ws.getD n (0, 0)) = [] := c
        have b : (!(WA ps ws p n).isEmpty) = true := by
          cases z : WA ps ws p n with
          | nil => exact absurd z c
          | cons a r => rfl
        rw [if_neg c', List.filter_cons, if_pos b]
        rfl
  have := key ws.length (Nat.le_refl _)
  rwa [List.take_length] at this
theorem on_ends {l : List Int} (h : l.length ≤ 2) {x : Int} (hx : x ∈ l) : On (ends l) x := by
  match l, h with
  | [], _ => cases hx
  | [a], _ => rw [List.mem_singleton.mp hx]; exact .inl rfl
  | [a, b], _ =>
    rcases List.mem_cons.mp hx with rfl | hx
    · exact .inl rfl
    · rw [List.mem_singleton.mp hx]; exact .inr rfl
/-- what right lists of all places give -/
theorem WA_ok {ps : List Int} (T : TreeOk ps) {ws : List (Int × Int)} (hok : ∀ w ∈ ws, isWay (.tree ps) w.1 w.2) {lists : List (List Int)} {mx : Int} (hl : lists.length = ps.length + 1) (hr : ∀ p, p < ps.length + 1 → (lists.getD p []).length = (crPairs ps (p : Int) ws).length ∧ PrpL (crPairs ps (p : Int) ws) (lists.getD p []))
    (hb : ∀ p, p < ps.length + 1 → ∀ h ∈ lists.getD p [], 0 ≤ h ∧ h ≤ mx) (hmx : -1 ≤ mx) : TogOk (WA ps ws) ws.length (ps.length + 1) (min (mx + 1) ws.length).toNat fun p k => (lists.getD p []).getD k 0 := by
  have ln : ∀ p, p < ps.length + 1 → (lists.getD p []).length = (numsA (WA ps ws) ws.length p).length := fun p hp => by
    rw [(hr p hp).1, WA_pairs, List.length_map]
  refine ⟨fun p hp k j hk hj ne ⟨x, hx1, hx2⟩ e => ?_, fun p hp i j hi hj _ ai aj bi bj => WA_back T hok hp hi hj ai aj bi bj, fun p hp ks nd hks => ?_⟩
  · have pr := (hr p hp).2
    have lk := ln p hp
    have two : ∀ {k}, k < (numsA (WA ps ws) ws.length p).length → (WA ps ws p ((numsA (WA ps ws) ws.length p).getD k 0)).length ≤ 2 := fun {k} hk => by
      have h1 := (getD_nums hk).1
      exact wayAt_two T (by omega) (hok _ (by rw [List.getD_eq_getElem?_getD, List.getElem?_eq_getElem h1]; exact List.getElem_mem h1))
    have pj : ∀ {k}, k < (numsA (WA ps ws) ws.length p).length → Pj (crPairs ps (p : Int) ws) k = ends (WA ps ws p ((numsA (WA ps ws) ws.length p).getD k 0)) := fun {k} hk => by
      show (crPairs ps (p : Int) ws).getD k (0, 0) = _
      rw [WA_pairs, List.getD_eq_getElem?_getD, List.getElem?_map, List.getElem?_eq_getElem hk, List.getD_eq_getElem?_getD, List.getElem?_eq_getElem hk]
      rfl
    refine pr k j (by omega) (by omega) ne e x ?_ ?_
    · rw [pj hk]; exact on_ends (two hk) hx1
    · rw [pj hj]; exact on_ends (two hj) hx2
  · have lk := ln p hp
    have mem : ∀ h ∈ ks, h ∈ lists.getD p [] := fun h hh => by
      obtain ⟨j, hj, e⟩ := hks h hh
      rw [← e, List.getD_eq_getElem?_getD (l := lists.getD p []), List.getElem?_eq_getElem (show j < (lists.getD p []).length by omega)]
      exact List.getElem_mem _
    have l1 := ndl nd mem
    have l2 := nodup_below (mx + 1).toNat ks nd fun h hh => by
      have := hb p hp h (mem h hh)
      omega
    have l3 : (numsA (WA ps ws) ws.length p).length ≤ ws.length := by
      unfold numsA
      have := List.length_filter_le (fun i => !(WA ps ws p i).isEmpty) (List.range ws.length)
      rwa [List.length_range] at this
    omega
/-- the hues of the ways -/
def togH (ps : List Int) (ws : List (Int × Int)) (lists : List (List Int)) (mx : Int) : List Int := (List.range ws.length).map fun i => (togF (WA ps ws) ws.length (min (mx + 1) ws.length).toNat (fun p k => (lists.getD p []).getD k 0) (ps.length + 1) i).getD 0
theorem togH_right {ps : List Int} (T : TreeOk ps) {ws : List (Int × Int)} (hok : ∀ w ∈ ws, isWay (.tree ps) w.1 w.2) {lists : List (List Int)} {mx : Int} (hl : lists.length = ps.length + 1) (hr : ∀ p, p < ps.length + 1 → (lists.getD p []).length = (crPairs ps (p : Int) ws).length ∧ PrpL (crPairs ps (p : Int) ws) (lists.getD p []))
    (hb : ∀ p, p < ps.length + 1 → ∀ h ∈ lists.getD p [], 0 ≤ h ∧ h ≤ mx) (hmx : -1 ≤ mx) : (togH ps ws lists mx).length = ws.length ∧ (∀ h ∈ togH ps ws lists mx, 0 ≤ h ∧ h ≤ mx) ∧ ∀ i j, i < ws.length → j < ws.length → i ≠ j → (∃ t, t ∈ treeTies ps (ws.getD i (0, 0)) ∧ t ∈ treeTies ps (ws.getD j (0, 0))) → (togH ps ws lists mx).getD i 0 ≠ (togH ps ws lists mx).getD j 0 := by
  have I := tog_inv (WA_ok T hok hl hr hb hmx) (Nat.le_refl _)
  have all : ∀ i, i < ws.length → ∃ u, togF (WA ps ws) ws.length (min (mx + 1) ws.length).toNat (fun p k => (lists.getD p []).getD k 0) (ps.length + 1) i = some u := fun i hi => (I.dom i).mpr ⟨hi, WA_some T hok hi⟩
  have at' : ∀ i, i < ws.length → (togH ps ws lists mx).getD i 0 = (togF (WA ps ws) ws.length (min (mx + 1) ws.length).toNat (fun p k => (lists.getD p []).getD k 0) (ps.length + 1) i).getD 0 := fun i hi => by
    unfold togH
    rw [List.getD_eq_getElem?_getD, List.getElem?_map, List.getElem?_range hi]
    rfl
  refine ⟨by unfold togH; simp, fun h hh => ?_, fun i j hi hj ne ⟨t, h1, h2⟩ e => ?_⟩
  · unfold togH at hh
    obtain ⟨i, hi, rfl⟩ := List.mem_map.mp hh
    obtain ⟨u, hu⟩ := all i (List.mem_range.mp hi)
    rw [hu]
    have := I.rng i u hu
    show 0 ≤ u ∧ u ≤ mx
    omega
  · rw [at' i hi, at' j hj] at e
    obtain ⟨u, hu⟩ := all i hi
    obtain ⟨v, hv⟩ := all j hj
    obtain ⟨q, hq, sh⟩ := WA_share T h1 h2
    rw [hu, hv] at e
    exact I.ap i j ne q hq sh u v hu hv e


def HasG (kvs : List (Key × V)) (G : Nat → Option Int) : Prop := ∀ k : Nat, valV kvs (.inl (k : Int)) = (G k).map V.int
theorem HasG.put {kvs : List (Key × V)} {G : Nat → Option Int} (h : HasG kvs G) (k : Nat) (u : Int) : HasG (putK kvs (.inl (k : Int)) (.int u)) fun w => if w = k then some u else G w := fun w => by
  rw [valV_put]
  by_cases c : w = k
  · rw [if_pos (by rw [c])]
    show _ = Option.map V.int (if w = k then some u else G w)
    rw [if_pos c]; rfl
  · rw [if_neg (fun e => c (by injection e with e; exact Int.ofNat.inj e))]
    show _ = Option.map V.int (if w = k then some u else G w)
    rw [if_neg c]; exact h w
theorem putK_len (kvs : List (Key × V)) (k : Key) (v : V) : (putK kvs k v).length ≤ kvs.length + 1 := by
  unfold putK
  split
  · rw [List.length_map]; omega
  · simp
/-- lists of whole numbers, each for itself -/
def ListsIn (H : Hp) (v : V) (lists : List (List Int)) : Prop := ∃ (b : Addr) (cs : List Addr), v = .ref b ∧ H b = some (.lst (cs.map V.ref)) ∧ cs.length = lists.length ∧ ∀ (i : Nat) c l, cs[i]? = some c → lists[i]? = some l → H c = some (.lst (l.map V.int))
theorem cast_getD {l : List Nat} {k : Nat} : (l.map fun i : Nat => (i : Int)).getD k 0 = ((l.getD k 0 : Nat) : Int) := by
  rw [List.getD_eq_getElem?_getD, List.getD_eq_getElem?_getD, List.getElem?_map]
  cases l[k]? <;> rfl
theorem nm0_none {G : Nat → Option Int} {nums : List Nat} {l : Nat → Int} {k : Nat} (h : G (nums.getD k 0) = none) : nm0F G nums l (k + 1) = nm0F G nums l k := by
  conv => lhs; unfold nm0F
  rw [h]
theorem nm0_some {G : Nat → Option Int} {nums : List Nat} {l : Nat → Int} {k : Nat} {u : Int} (h : G (nums.getD k 0) = some u) : nm0F G nums l (k + 1) = nm0F G nums l k ++ [(l k, u)] := by
  conv => lhs; unfold nm0F
  rw [h]
theorem step_none {nums : List Nat} {l : Nat → Int} {s : PSt} {k : Nat} (h : lookS s.nm (l k) = none) : (stepF nums l s k).nm = s.nm ++ [(l k, s.lf.headD 0)] ∧ (stepF nums l s k).lf = s.lf.tail := by
  unfold stepF
  simp only [h, if_true]
  exact ⟨trivial, trivial⟩
theorem step_some {nums : List Nat} {l : Nat → Int} {s : PSt} {k : Nat} {u : Int} (h : lookS s.nm (l k) = some u) : (stepF nums l s k).nm = s.nm ∧ (stepF nums l s k).lf = s.lf := by
  unfold stepF
  simp only [h, reduceCtorEq, if_false]
  exact ⟨trivial, trivial⟩
theorem step_G {nums : List Nat} {l : Nat → Int} {s : PSt} {k : Nat} {u : Int} (h : lookS (stepF nums l s k).nm (l k) = some u) : (stepF nums l s k).G = fun w => if w = nums.getD k 0 then some u else s.G w := by
  funext w
  show (if w = nums.getD k 0 then lookS (stepF nums l s k).nm (l k) else s.G w) = _
  rw [h]
theorem pop_head {l : List Int} : l.getD (0 : Int).toNat 0 = l.headD 0 ∧ l.eraseIdx (0 : Int).toNat = l.tail := by
  cases l <;> exact ⟨rfl, rfl⟩
theorem dS_snd (nm : List (Int × Int)) : (dS nm).map (·.2) = (nm.map (·.2)).map V.int := by unfold dS; rw [List.map_map, List.map_map]; rfl
def pr_put_together (K : PySem.W.Frag) (v0 v1 v2 : V) (H : Hp) (Q : VK) (_ : XK) : Prop := ∃ (ps : List Int) (ws : List (Int × Int)) (lists : List (List Int)), Dp K H v0 (Net.tree ps).d ∧ TreeOk ps ∧ Dp K H v1 (dPairs ws) ∧ ws.length ≤ 60 ∧ (∀ w ∈ ws, isWay (.tree ps) w.1 w.2) ∧ ListsIn H v2 lists ∧ lists.length = ps.length + 1 ∧
  (∀ p, p < ps.length + 1 → (lists.getD p []).length = (crPairs ps (p : Int) ws).length ∧ PrpL (crPairs ps (p : Int) ws) (lists.getD p [])) ∧ (∀ l ∈ lists, ∀ h ∈ l, 0 ≤ h) ∧
  ∀ mx p H', mx ∈ [-1] ++ lists.flatten → (∀ x ∈ [-1] ++ lists.flatten, x ≤ mx) → H p = none → Same H H' → H' p = some (.lst ((togH ps ws lists mx).map V.int)) → Q (.ref p) H'
def t_put_together (K : PySem.W.Frag) : TS :=
  (tSeq (tAsg (tCB rMin2 (tCons (tOp xAdd (tCB (rMax K) (tCons (tCB (rSumL K) (tCons (tVar 2) (tCons (tLst (tCons (tUn xNeg (tC (.int 1))) tNil)) tNil))) tNil)) (tC (.int 1))) (tCons (tCB (rLenX K) (tCons (tVar 1) tNil)) tNil))) (gName 3))
    (tSeq (tAsg tDNewK (gName 4))
    (tSeq (tFor (iRng1 (tCons (tCall (sp_places_of K) [] E0 (tCons (tVar 0) tNil)) tNil)) (gName 5)
      (tSeq (tAsg (tCall (sp_crossing_of K) [] E0 (tCons (tVar 0) (tCons (tVar 1) (tCons (tVar 5) tNil)))) (gTup K 2 (gCons (gName 6) (gCons (gName 7) gNil))))
    (tSeq (tAsg tDNewK (gName 8))
    (tSeq (tFor (iRng1 (tCons (tCB (rLenX K) (tCons (tVar 7) tNil)) tNil)) (gName 9)
      (tIfS (tB (tDIn (tOp (rIxL K) (tVar 7) (tVar 9)) (tVar 4))) (sDPut (tVar 8) (tOp (rIxL K) (tOp (rIxL K) (tVar 2) (tVar 5)) (tVar 9)) (tDGet (tVar 4) (tOp (rIxL K) (tVar 7) (tVar 9)))) tNext))
    (tSeq (tAsg (tLc (iRng1 (tCons (tVar 3) tNil)) (gName 11) (tB (tInV true (tVar 11) (tVar 8))) (tVar 11) [11]) (gName 10))
    (tFor (iRng1 (tCons (tCB (rLenX K) (tCons (tVar 7) tNil)) tNil)) (gName 9)
      (tSeq (tAsg (tOp (rIxL K) (tOp (rIxL K) (tVar 2) (tVar 5)) (tVar 9)) (gName 11))
    (tSeq (tIfS (tB (tDNotIn (tVar 11) (tVar 8))) (sDPut (tVar 8) (tVar 11) (tBM K "list" rPopAt (tVar 10) (tCons (tC (.int 0)) tNil))) tNext)
    (sDPut (tVar 4) (tOp (rIxL K) (tVar 7) (tVar 9)) (tDGet (tVar 8) (tVar 11)))))))))))
    (tRet (tLc (iRng1 (tCons (tCB (rLenX K) (tCons (tVar 1) tNil)) tNil)) (gName 9) tYes (tDGet (tVar 4) (tVar 9)) [9])))))
theorem pure_put_together {v0 v1 v2 : V} {H : Hp} {Q : VK} {E : XK} (hh : pr_put_together K v0 v1 v2 H Q E) : t_put_together K ⟨fun _ H' => Q .non H', Q, fun _ _ => False, fun _ _ => False⟩ [some v0, some v1, some v2, none, none, none, none, none, none, none, none, none] H := by
  obtain ⟨ps, ws, lists, d0, T, d1, hz, hok, ⟨lb, cs, rfl, hlb, lcs, hcs⟩, hl, hr, h0, q⟩ := hh
  obtain ⟨wb, wys, rfl, hwb, dws⟩ := dp_list d1
  have lws : wys.length = ws.length := by rw [dpa_len dws, List.length_map]
  have lps : ps.length < 60 := T.2.1
  have small : ∀ l ∈ lists, l.length ≤ 60 := fun l hl' => by
    obtain ⟨p, hp, rfl⟩ := List.mem_iff_getElem.mp hl'
    have := (hr p (by omega)).1
    have e : lists.getD p [] = lists[p] := by rw [List.getD_eq_getElem?_getD, List.getElem?_eq_getElem hp]; rfl
    rw [e] at this
    rw [this]
    unfold crPairs
    exact Nat.le_trans (List.length_filterMap_le _ _) hz
  have flat : (lists.map fun l => l.map V.int).flatten = lists.flatten.map V.int := by rw [List.map_flatten]
  have lflat : lists.flatten.length ≤ 60 * lists.length := by
    have key : ∀ {ls : List (List Int)}, (∀ l ∈ ls, l.length ≤ 60) → ls.flatten.length ≤ 60 * ls.length := by
      intro ls
      induction ls with
      | nil => intro _; simp
      | cons a r ih =>
        intro h
        have := ih fun l hl => h l (List.mem_cons_of_mem _ hl)
        have := h a List.mem_cons_self
        rw [List.flatten_cons, List.length_append, List.length_cons]
        omega
    exact key small
  unfold t_put_together
  wtm_at "s"
  refine kL (by simp) (fun l1 H1 nl1 s1 e1 => ?_)
  wtm_at "s"
  refine k_sumL (rows := lists.map fun l => l.map V.int) (st := [.int (-1)]) (sl (s1 _ _ hlb)) e1 (by rw [List.length_map]; exact lcs) (fun i c r hc hr' => ?_) (by rw [flat, List.length_append, List.length_map]; simp only [List.length_cons, List.length_nil]; omega) (fun p2 H2 _ s2 e2 => ?_)
  · rw [List.getElem?_map] at hr'
    obtain ⟨l, hl', rfl⟩ := Option.map_eq_some_iff.mp hr'
    exact s1 _ _ (hcs i c l hc hl')
  rw [flat, show [V.int (-1)] ++ List.map V.int lists.flatten = List.map V.int ([-1] ++ lists.flatten) by rw [List.map_append]; rfl] at e2
  wtm_at "s"
  refine k_max (ns := [-1] ++ lists.flatten) (sl e2) (by simp) (fun mx hm1 hm2 => ?_)
  have s02 := s1.trans s2
  have mlow : -1 ≤ mx := hm2 (-1) (by simp)
  have hb : ∀ p, p < ps.length + 1 → ∀ h ∈ lists.getD p [], 0 ≤ h ∧ h ≤ mx := fun p hp h hh => by
    have e : lists.getD p [] = lists[p]'(by omega) := by rw [List.getD_eq_getElem?_getD, List.getElem?_eq_getElem (by omega)]; rfl
    rw [e] at hh
    have m : lists[p]'(by omega) ∈ lists := List.getElem_mem _
    exact ⟨h0 _ m h hh, hm2 h (List.mem_append_right _ (List.mem_flatten.mpr ⟨_, m, hh⟩))⟩
  have q' := fun (p : Addr) H' => q mx p H' hm1 hm2
  have ok := WA_ok T hok hl hr hb mlow
  have hres := q'
  clear q hm1 hm2 e2 e1 nl1 s1 s2
  unfold togH at q'
  have hdom := fun {p : Nat} (hp : p ≤ ps.length + 1) => tog_inv ok hp
  generalize hmost : (min (mx + 1) (ws.length : Int)).toNat = most at ok q' hdom
  generalize hlst : (fun p k => (lists.getD p []).getD k 0 : Nat → Nat → Int) = lst at ok q' hdom
  wtm_at "s"
  rw [show (if (wys.length : Int) < mx + 1 then (wys.length : Int) else mx + 1) = (most : Int) by split <;> omega]
  wtm_at "s"
  refine kD (fun ga H3 nga s3 e3 => ?_)
  have nga0 : H ga = none := s02.free nga
  wtm_at "s"
  refine ⟨_, rfl, .tree ps, dp_same (s02.trans s3) d0, ?_⟩
  rw [show Net.places (.tree ps) = ((ps.length + 1 : Nat) : Int) from by show (ps.length : Int) + 1 = _; omega]
  wtm_at "s"
  rw [Int.toNat_natCast]
  refine forR (fun p σ' H' => ∃ (kvs : List (Key × V)) (k5 k6 k7 k8 k9 k10 k11 : Option V), σ' = [some v0, some (.ref wb), some (.ref lb), some (.int (most : Int)), some (.ref ga), k5, k6, k7, k8, k9, k10, k11] ∧ Same H H' ∧ H' ga = some (.dK kvs) ∧ HasG kvs (togF (WA ps ws) ws.length most lst p) ∧ kvs.length ≤ 61 * p)
    ⟨[], _, _, _, _, _, _, _, rfl, s02.trans s3, e3, fun k => rfl, by simp⟩ ?_ ?_
  · clear s02 s3 e3 nga q' hres
    rintro p σ' H4 hp ⟨kvs, k5, k6, k7, k8, k9, k10, k11, rfl, s4, eg, hg, lk⟩
    have hp' : p < ps.length + 1 := hp
    have I := hdom (show p ≤ ps.length + 1 by omega)
    have ln : (lists.getD p []).length = (numsA (WA ps ws) ws.length p).length := by rw [(hr p hp').1, WA_pairs, List.length_map]
    have l60 : (numsA (WA ps ws) ws.length p).length ≤ 60 := by
      unfold numsA
      have := List.length_filter_le (fun i => !(WA ps ws p i).isEmpty) (List.range ws.length)
      rw [List.length_range] at this
      omega
    wtm_at "s"
    refine ⟨_, _, _, rfl, ps, ws, (0 + (p : Nat)), rfl, dp_same s4 d0, T, dp_same s4 d1, by omega, hok, fun cp H5 cn => ?_⟩
    rw [Int.zero_add] at cn
    have s5 : Same H4 H5 := cn.same
    obtain ⟨cq, pl, nl, cys, _, _, _, nnl, _, ecp, ecq, _, _, enl⟩ := cn.ex
    rw [WA_nums] at enl
    have nlga : nl ≠ ga := fun z => by rw [z, eg] at nnl; cases nnl
    have eg5 := s5 _ _ eg
    have s05 := s4.trans s5
    clear cn ecq
    obtain ⟨c, hc⟩ : ∃ c, cs[p]? = some c := ⟨cs[p]'(by omega), List.getElem?_eq_getElem (by omega)⟩
    have hlp : lists[p]? = some (lists.getD p []) := by rw [List.getD_eq_getElem?_getD, List.getElem?_eq_getElem (by omega)]; rfl
    have ec0 := hcs p c _ hc hlp
    have cga : c ≠ ga := fun z => by rw [z, nga0] at ec0; cases ec0
    have hcat : atI (cs.map V.ref) (0 + (p : Nat)) = some (.ref c) := by
      rw [Int.zero_add]
      exact atI_nat (by rw [List.getElem?_map, hc]; rfl)
    wtm_at "s"
    refine kD (fun na H6 nna s6 e6 => ?_)
    have nana : na ≠ ga := fun z => by rw [z, eg5] at nna; cases nna
    have nanl : na ≠ nl := fun z => by rw [z, enl] at nna; cases nna
    have nna0 : H na = none := s05.free nna
    have cna : c ≠ na := fun z => by rw [z, nna0] at ec0; cases ec0
    have s06 := s05.trans s6
    have eg6 := s6 _ _ eg5
    have enl6 := s6 _ _ enl
    clear s5 s05 s6 eg5 enl nnl nna eg s4
    have ld : ∀ k : Nat, (lists.getD p []).getD k 0 = lst p k := fun k => by rw [← hlst]
    have PS := place_start ok hp' I
    have hm := ok.room p hp'
    have rm := fun {k : Nat} (hk : k ≤ (numsA (WA ps ws) ws.length p).length) => place_run ok hp' I hk
    have dd := I
    have eini : ∀ k, nm0F (togF (WA ps ws) ws.length most lst p) (numsA (WA ps ws) ws.length p) (lst p) k = nm0F (togF (WA ps ws) ws.length most lst p) (numsA (WA ps ws) ws.length p) (lst p) k := fun _ => rfl
    have nmn : ∀ k, k < (numsA (WA ps ws) ws.length p).length → ∀ u, togF (WA ps ws) ws.length most lst p ((numsA (WA ps ws) ws.length p).getD k 0) = some u → lookS (nm0F (togF (WA ps ws) ws.length most lst p) (numsA (WA ps ws) ws.length p) (lst p) k) (lst p k) = none := fun k hk u hu => by
      cases z : lookS (nm0F (togF (WA ps ws) ws.length most lst p) (numsA (WA ps ws) ws.length p) (lst p) k) (lst p k) with
      | none => rfl
      | some v =>
        obtain ⟨j, h1, h2, h3⟩ := nm0_mem.mp (look_mem z)
        have aj := getD_nums (show j < (numsA (WA ps ws) ws.length p).length by omega)
        have ak := getD_nums hk
        have dj := ((I.dom _).mp ⟨_, h3⟩).2
        have dk := ((I.dom _).mp ⟨_, hu⟩).2
        obtain ⟨sh, _⟩ := ok.back p hp' _ _ aj.1 ak.1 (getD_inj (nums_nd _ _ _) (by omega) hk (by omega)) aj.2 ak.2 dj dk
        exact absurd h2 (ok.right p hp' j k (by omega) hk (by omega) sh)
    have eG' : togF (WA ps ws) ws.length most lst (p + 1) = placeF most (numsA (WA ps ws) ws.length p) (lst p) (togF (WA ps ws) ws.length most lst p) := rfl
    have nmlen : ∀ k, (nm0F (togF (WA ps ws) ws.length most lst p) (numsA (WA ps ws) ws.length p) (lst p) k).length ≤ k := by
      intro k
      induction k with
      | zero => exact Nat.le_refl _
      | succ k ih =>
        unfold nm0F
        split
        · rw [List.length_append, List.length_singleton]; omega
        · omega
    rw [eG']
    generalize togF (WA ps ws) ws.length most lst p = G at *
    generalize numsA (WA ps ws) ws.length p = nums at *
    wtm_at "s"
    rw [List.length_map]
    wtm_at "s"
    rw [Int.toNat_natCast]
    refine forR (fun k σ' H' => ∃ k9 k10 k11 : Option V, σ' = [some v0, some (.ref wb), some (.ref lb), some (.int (most : Int)), some (.ref ga), some (.int (0 + (p : Nat))), some (.ref cq), some (.ref nl), some (.ref na), k9, k10, k11] ∧ Same H H' ∧ H' ga = some (.dK kvs) ∧ H' nl = some (.lst (List.map V.int (nums.map fun i : Nat => (i : Int)))) ∧ H' na = some (.dK (dS (nm0F G nums (lst p) k)))) ⟨_, _, _, rfl, s06, eg6, enl6, e6⟩ ?_ ?_
    · clear s06 eg6 enl6 e6
      rintro k σ' H7 hk ⟨k9, k10, k11, rfl, s7, eg, enl, en⟩
      wtm_at "s"
      refine k_ixI (sl enl) (by omega) (by rw [List.length_map]; omega) ?_
      rw [show (0 + (k : Int)).toNat = k by omega, cast_getD]
      wtm_at "s"
      refine k_iD eg ?_
      rw [hg]
      cases hG : G (nums.getD k 0) with
      | none =>
        simp only [Option.map_none, Option.isSome_none, Bool.false_eq_true, if_false]
        wtm_at "s"
        refine ⟨_, _, _, rfl, s7, eg, enl, ?_⟩
        rw [nm0_none hG]
        exact en
      | some u =>
        simp only [Option.map_some, Option.isSome_some, if_true, Bool.false_eq_true, if_false]
        wtm_at "s"
        refine k_ixI (sl enl) (by omega) (by rw [List.length_map]; omega) ?_
        rw [show (0 + (k : Int)).toNat = k by omega, cast_getD]
        refine k_gD1 (.inl eg) (by rw [hg, hG]; rfl) ?_
        wtm_at "s"
        refine k_ixL (sl (s7 _ _ hlb)) hcat ?_
        wtm_at "s"
        refine k_ixI (sl (s7 _ _ ec0)) (by omega) (by omega) ?_
        rw [show (0 + (k : Int)).toNat = k by omega, ld k]
        refine k_pD en (by rw [dS_len]; have := nmlen k; omega) ?_
        rw [dS_put (nmn k hk u hG), ← nm0_some hG]
        exact ⟨_, _, _, rfl, same_mut s7 nna0, by rw [upd_ne nana.symm]; exact eg, by rw [upd_ne nanl.symm]; exact enl, upd_same⟩
    · clear s06 eg6 enl6 e6
      rintro σ' H7 ⟨k9, k10, k11, rfl, s7, eg, enl, en⟩
      have m60 : most ≤ 60 := by omega
      wtm_at "s"
      rw [Int.toNat_natCast]
      refine lc_pureR (by omega) (fun t => if (!decide ((t : Int) ∈ (nm0F G nums (lst p) nums.length).map (·.2))) = true then some (.int (0 + (t : Nat))) else none) ?_ (fun D H8 nD s8 eD => ?_)
      · intro t H' ht sm R R0 g1 g2
        wtm_at "s"
        refine k_nInV (sm _ _ en) (dS_snd _) ?_
        rw [Int.zero_add]
        wtm_at "s"
        refine k_itn (fun c => ?_) (fun c => ?_)
        · wtm_at "s"
          exact g1 _ (by rw [if_pos (by rw [decide_eq_false c]; rfl), Int.zero_add])
        · exact g2 (if_neg (by rw [decide_eq_true c]; decide))
      rw [keepI_fm] at eD
      have nD0 : H D = none := s7.free nD
      have Dga : D ≠ ga := fun z => by rw [z, eg] at nD; cases nD
      have Dnl : D ≠ nl := fun z => by rw [z, enl] at nD; cases nD
      have Dna : D ≠ na := fun z => by rw [z, en] at nD; cases nD
      have s08 := s7.trans s8
      have eg8 := s8 _ _ eg
      have enl8 := s8 _ _ enl
      have en8 := s8 _ _ en
      clear s7 s8 eg enl en nD
      wtm_at "s"
      rw [List.length_map]
      wtm_at "s"
      rw [Int.toNat_natCast]
      refine forR (fun k σ' H' => ∃ (kv : List (Key × V)) (k9 k11 : Option V), σ' = [some v0, some (.ref wb), some (.ref lb), some (.int (most : Int)), some (.ref ga), some (.int (0 + (p : Nat))), some (.ref cq), some (.ref nl), some (.ref na), k9, some (.ref D), k11] ∧ Same H H' ∧ H' nl = some (.lst (List.map V.int (nums.map fun i : Nat => (i : Int)))) ∧ H' na = some (.dK (dS (runF nums (lst p) (initF most nums (lst p) G) k).nm)) ∧ H' D = some (.lst ((runF nums (lst p) (initF most nums (lst p) G) k).lf.map V.int)) ∧ H' ga = some (.dK kv) ∧ HasG kv (runF nums (lst p) (initF most nums (lst p) G) k).G ∧ kv.length ≤ 61 * p + k) ⟨kvs, _, _, rfl, s08, enl8, en8, eD, eg8, hg, by omega⟩ ?_ ?_
      · clear s08 enl8 en8 eD eg8 hg
        rintro k σ' H9 hk ⟨kv, k9, k11, rfl, s9, enl, en, eD, eg, hg, lkv⟩
        have R := rm (show k ≤ nums.length by omega)
        obtain ⟨u, hu, _⟩ := (rm (show k + 1 ≤ nums.length by omega)).done k (by omega)
        have eS : runF nums (lst p) (initF most nums (lst p) G) (k + 1) = stepF nums (lst p) (runF nums (lst p) (initF most nums (lst p) G) k) k := rfl
        have rmk := fun hn => pinv_room R hk hm hn
        rw [eS] at hu ⊢
        have nmm : (runF nums (lst p) (initF most nums (lst p) G) k).nm.length ≤ 60 := by have := R.len; omega
        generalize runF nums (lst p) (initF most nums (lst p) G) k = S at *
        have eG2 := step_G hu
        wtm_at "s"
        refine k_ixL (sl (s9 _ _ hlb)) hcat ?_
        wtm_at "s"
        refine k_ixI (sl (s9 _ _ ec0)) (by omega) (by omega) ?_
        rw [show (0 + (k : Int)).toNat = k by omega, ld k]
        wtm_at "s"
        refine k_iD en ?_
        rw [dS_val]
        cases hn : lookS S.nm (lst p k) with
        | some v =>
          simp only [Option.map_some, Option.isSome_some, if_true, Bool.not_true, Bool.false_eq_true, if_false]
          have hu' : lookS S.nm (lst p k) = some u := by rw [← (step_some hn).1]; exact hu
          wtm_at "s"
          refine k_gD1 (v := .int u) (.inl en) (by rw [dS_val, hu']; rfl) ?_
          wtm_at "s"
          refine k_ixI (sl enl) (by omega) (by rw [List.length_map]; omega) ?_
          rw [show (0 + (k : Int)).toNat = k by omega, cast_getD]
          refine k_pD eg (by omega) ?_
          refine ⟨_, _, _, rfl, same_mut s9 nga0, by rw [upd_ne nlga]; exact enl, by rw [upd_ne nana, (step_some hn).1]; exact en, by rw [upd_ne Dga, (step_some hn).2]; exact eD, upd_same, by rw [eG2]; exact hg.put _ u, ?_⟩
          have := putK_len kv (.inl ((nums.getD k 0 : Nat) : Int)) (.int u)
          omega
        | none =>
          simp only [Option.map_none, Option.isSome_none, if_true, Bool.not_false, Bool.false_eq_true, if_false]
          have pos := rmk hn
          wtm_at "s"
          refine k_tyL (sl eD) ?_
          wtm_at "s"
          refine k_popI eD (by decide) (by omega) (by decide) ?_
          rw [pop_head.1, pop_head.2]
          wtm_at "s"
          refine k_pD (by rw [upd_ne Dna.symm]; exact en) (by rw [dS_len]; omega) ?_
          rw [dS_put hn]
          wtm_at "s"
          refine k_gD1 (v := .int u) (.inl upd_same) (by rw [dS_val, ← (step_none hn).1, hu]; rfl) ?_
          wtm_at "s"
          refine k_ixI (sl (by rw [upd_ne nanl.symm, upd_ne Dnl.symm]; exact enl)) (by omega) (by rw [List.length_map]; omega) ?_
          rw [show (0 + (k : Int)).toNat = k by omega, cast_getD]
          refine k_pD (by rw [upd_ne nana.symm, upd_ne Dga.symm]; exact eg) (by omega) ?_
          refine ⟨_, _, _, rfl, same_mut (same_mut (same_mut s9 nD0) nna0) nga0, by rw [upd_ne nlga, upd_ne nanl.symm, upd_ne Dnl.symm]; exact enl, by rw [upd_ne nana, upd_same, (step_none hn).1], by rw [upd_ne Dga, upd_ne Dna, upd_same, (step_none hn).2], upd_same, by rw [eG2]; exact hg.put _ u, ?_⟩
          have := putK_len kv (.inl ((nums.getD k 0 : Nat) : Int)) (.int u)
          omega
      · rintro σ' H9 ⟨kv, k9, k11, rfl, s9, enl, en, eD, eg, hg, lkv⟩
        wtm_at "s"
        exact ⟨kv, _, _, _, _, _, _, _, rfl, s9, eg, hg, by omega⟩
  · rintro σ' H4 ⟨kvs, k5, k6, k7, k8, k9, k10, k11, rfl, s4, eg, hg, lk⟩
    have I := hdom (Nat.le_refl (ps.length + 1))
    have all : ∀ i, i < ws.length → ∃ u, togF (WA ps ws) ws.length most lst (ps.length + 1) i = some u := fun i hi => (I.dom i).mpr ⟨hi, WA_some T hok hi⟩
    wtm_at "s"
    rw [Int.toNat_natCast]
    refine lc_pureR (by omega) (fun k => some (.int ((togF (WA ps ws) ws.length most lst (ps.length + 1) k).getD 0))) ?_ (fun D H8 nD s8 eD => ?_)
    · intro k H' hk sm R R0 g1 g2
      obtain ⟨u, hu⟩ := all k (by omega)
      wtm_at "s"
      refine k_gD1 (v := .int u) (.inl (sm _ _ eg)) (by rw [Int.zero_add, hg, hu]; rfl) ?_
      exact g1 _ (by rw [hu]; rfl)
    · have ex : (List.range wys.length).filterMap (fun k => some (V.int ((togF (WA ps ws) ws.length most lst (ps.length + 1) k).getD 0))) = ((List.range ws.length).map fun k => (togF (WA ps ws) ws.length most lst (ps.length + 1) k).getD 0).map V.int := by
        rw [List.map_map, ← List.filterMap_eq_map, lws]; rfl
      rw [ex] at eD
      wtm_at "s"
      exact q' D H8 (s4.free nD) (s4.trans s8) eD
abbrev sp_put_together (K : PySem.W.Frag) : Sp := fun vs H Q E => ∃ v0 v1 v2, vs = [v0, v1, v2] ∧ pr_put_together K v0 v1 v2 H Q E
theorem ok_put_together (T : Txt K mg A) : FnOk P w K mg base CX0 3 A.a_put_together A.d_put_together ["net", "ways", "lists"] (sp_put_together K) := by
  refine T.F_put_together.ok sc_put_together (fun vs H Q E h => by obtain ⟨v0, v1, v2, rfl, _⟩ := h; rfl) (fun cdv A0 outer s H vs Q E hr h => ?_)
  obtain ⟨v0, v1, v2, rfl, h⟩ := h
  exact ⟨t_put_together K, (pss_cons (ps_set (i := 3) sc_put_together.nd rfl (Or.inl rfl) (pe_callB (q_min2 (by rfl)) (by rfl) T.z_min (by decide +kernel) (pa_cons (pe_op op_add (pe_callB (cr_max (by rfl)) (by rfl) T.z_max (by decide +kernel) (pa_cons (pe_callB (cr_sumL (by rfl)) (by rfl) T.z_sum (by decide +kernel) (pa_cons (pv 2) (pa_cons (pe_lst (pa_cons (pe_un un_neg pe_int) pa_nil)) pa_nil))) pa_nil)) pe_int) (pa_cons (pe_callB q_len (by rfl) T.z_len (by decide +kernel) (pa_cons (pv 1) pa_nil)) pa_nil))))
      (pss_cons (ps_set (i := 4) sc_put_together.nd rfl (Or.inr rfl) pe_dnewK)
      (pss_cons (ps_for PassesOwn.never rfl (pi_range1 (by rfl) T.z_range (pa_cons (pe_call (ok_places_of T) (hr.mono (by decide)) (by rfl) T.g_places_of T.F_places_of.kp T.b_places_of .nil pass0 (pa_cons (pv 0) pa_nil)) pa_nil)) (pg_name (i := 5) sc_put_together.nd rfl (Or.inl rfl))
      (pss_cons (ps_asg (pe_call (ok_crossing_of T) (hr.mono (by decide)) (by rfl) T.g_crossing_of T.F_crossing_of.kp T.b_crossing_of .nil pass0 (pa_cons (pv 0) (pa_cons (pv 1) (pa_cons (pv 5) pa_nil)))) (pg_tup (by rfl) (pgs_cons (pg_name (i := 6) sc_put_together.nd rfl (Or.inl rfl)) (pgs_cons (pg_name (i := 7) sc_put_together.nd rfl (Or.inl rfl)) pgs_nil))))
      (pss_cons (ps_set (i := 8) sc_put_together.nd rfl (Or.inr rfl) pe_dnewK)
      (pss_cons (ps_for PassesOwn.never rfl (pi_range1 (by rfl) T.z_range (pa_cons (pe_callB q_len (by rfl) T.z_len (by decide +kernel) (pa_cons (pv 7) pa_nil)) pa_nil)) (pg_name (i := 9) sc_put_together.nd rfl (Or.inl rfl))
      (pss_one (ps_if (pt_cmp (pc_din (Nat.lt_of_le_of_lt (Nat.add_le_add_left (by decide) _) hr.units) (pe_ix ix_list (pv 7) (pv 9) (fun _ _ => rfl)) (pv 4)) (by rfl)) (pss_one (ps_dput (Nat.lt_of_le_of_lt (Nat.add_le_add_left (by decide) _) hr.units) (pv 8) (pe_ix ix_list (pe_ix ix_list (pv 2) (pv 5) (fun _ _ => rfl)) (pv 9) (fun _ _ => rfl)) (pe_dget (Nat.lt_of_le_of_lt (Nat.add_le_add_left (by decide) _) hr.units) (pv 4) (pe_ix ix_list (pv 7) (pv 9) (fun _ _ => rfl)) (fun _ _ => rfl)) (by rfl))) pss_nil)))
      (pss_cons (ps_setLc (i := 10) (own := [("hue", 11)]) (by rfl) sc_put_together.nd rfl rfl (sw_true rfl rfl rfl (by decide +kernel)) (pi_range1 (by rfl) T.z_range (pa_cons (pv 3) pa_nil)) (blkOk_by (own := [("hue", 11)]) (N := ["net", "ways", "lists", "most", "given", "place", "crossing", "numbers", "names", "k", "left", "hue"]) (sc := defScope s_put_together) (by decide +kernel)) (fun _ _ _ _ _ => (pg_name (i := 11) sc_put_together.nd rfl (Or.inl rfl))) (fun _ _ _ _ _ => (pts_one (pt_cmp (pc_inVals (neg := true) (by rfl) (pv 11) (pv 8) (by rfl) (by rfl)) (by rfl)))) (fun _ _ _ _ _ => (pv 11)))
      (pss_one (ps_for PassesOwn.never rfl (pi_range1 (by rfl) T.z_range (pa_cons (pe_callB q_len (by rfl) T.z_len (by decide +kernel) (pa_cons (pv 7) pa_nil)) pa_nil)) (pg_name (i := 9) sc_put_together.nd rfl (Or.inl rfl))
      (pss_cons (ps_set (i := 11) sc_put_together.nd rfl (Or.inl rfl) (pe_ix ix_list (pe_ix ix_list (pv 2) (pv 5) (fun _ _ => rfl)) (pv 9) (fun _ _ => rfl)))
      (pss_cons (ps_if (pt_cmp (pc_dnotin (Nat.lt_of_le_of_lt (Nat.add_le_add_left (by decide) _) hr.units) (pv 11) (pv 8)) (by rfl)) (pss_one (ps_dput (Nat.lt_of_le_of_lt (Nat.add_le_add_left (by decide) _) hr.units) (pv 8) (pv 11) (pe_bm PySem.F.plainAttrs_list PySem.F.slot_list_pop PySem.F.type_list_pop mt_popAt (pv 10) (pa_cons pe_int pa_nil)) (by rfl))) pss_nil)
      (pss_one (ps_dput (Nat.lt_of_le_of_lt (Nat.add_le_add_left (by decide) _) hr.units) (pv 4) (pe_ix ix_list (pv 7) (pv 9) (fun _ _ => rfl)) (pe_dget (Nat.lt_of_le_of_lt (Nat.add_le_add_left (by decide) _) hr.units) (pv 8) (pv 11) (fun _ _ => rfl)) (by rfl))))))))))))
      (pss_one (ps_ret (pe_lc (own := [("k", 9)]) (by rfl) sc_put_together.nd (pi_range1 (by rfl) T.z_range (pa_cons (pe_callB q_len (by rfl) T.z_len (by decide +kernel) (pa_cons (pv 1) pa_nil)) pa_nil)) (blkOk_by (own := [("k", 9)]) (N := ["net", "ways", "lists", "most", "given", "place", "crossing", "numbers", "names", "k", "left", "hue"]) (sc := defScope s_put_together) (by decide +kernel)) (fun _ _ _ _ _ => (pg_name (i := 9) sc_put_together.nd rfl (Or.inl rfl))) (fun _ _ _ _ _ => pts_nil) (fun _ _ _ _ _ => (pe_dget (Nat.lt_of_le_of_lt (Nat.add_le_add_left (by decide) _) hr.units) (pv 4) (pv 9) (fun _ _ => rfl))))))))), pure_put_together h⟩


theorem sh_cr {n : Nat} (many : Int) (ps : List (Int × Int)) : Sh (n + 3) (dCr many ps) := sh_two sh_int (sh_pairs ps)
theorem cross_right {many : Int} {ps : List (Int × Int)} {L : Nat} (h : IsLoad ps L) : (crossF ps (3 * L / 2) ps.length).length = ps.length ∧ PrpL ps (crossF ps (3 * L / 2) ps.length) ∧ ∀ c ∈ crossF ps (3 * L / 2) ps.length, 0 ≤ c ∧ c < ((3 * L / 2 : Nat) : Int) := by
  obtain ⟨g, l⟩ := cross_good (ps := ps) (M := 3 * L / 2) rfl h.1 ps.length (Nat.le_refl _)
  exact ⟨l, g.prp, g.bnd⟩
theorem lastD_mem : ∀ (r : List Int) (a : Int), r.getLastD a ∈ a :: r
  | [], a => List.mem_cons_self
  | b :: r, a => by rw [List.getLastD_cons]; exact List.mem_cons_of_mem _ (lastD_mem r b)
theorem idx_lt {hs : List Int} (h : hs.Pairwise (· < ·)) {a b : Int} (ha : a ∈ hs) (hb : b ∈ hs) (l : a < b) : hs.idxOf a < hs.idxOf b := by
  have la := List.idxOf_lt_length_of_mem ha
  have lb := List.idxOf_lt_length_of_mem hb
  refine Classical.byContradiction fun z => ?_
  have ea : hs[hs.idxOf a] = a := List.getElem_idxOf la
  have eb : hs[hs.idxOf b] = b := List.getElem_idxOf lb
  rcases Nat.lt_or_ge (hs.idxOf b) (hs.idxOf a) with c | c
  · have := List.pairwise_iff_getElem.mp h _ _ lb la c
    omega
  · have e : hs.idxOf a = hs.idxOf b := by omega
    have : a = b := by rw [← ea, ← eb]; simp only [e]
    omega
theorem wayAt_srt (ps : List Int) (x : Int) (w : Int × Int) : (wayAt ps x w).Pairwise (· < ·) := by
  unfold wayAt someOf
  refine List.pairwise_map.mpr (((treeTies_srt ps w).filter _).imp_of_mem fun {a b} ha hb hab => ?_)
  have h1 := of_decide_eq_true (List.mem_filter.mp ha).2
  have h2 := of_decide_eq_true (List.mem_filter.mp hb).2
  have := idx_lt (here_srt ps x) h1 h2 hab
  omega
theorem CrOk.tree {ps : List Int} {x : Int} {ws : List (Int × Int)} (hp : ps.length ≤ 60) (hw : ws.length ≤ 60) : CrOk (hereOf ps x).length (crPairs ps x ws) := by
  have hl : (hereOf ps x).length ≤ ps.length := by
    unfold hereOf
    rw [List.length_map]
    have := List.length_filter_le (hereB ps x) (List.range ps.length)
    rwa [List.length_range] at this
  refine ⟨by omega, by omega, ?_, fun q hq => ?_⟩
  · unfold crPairs
    exact Nat.le_trans (List.length_filterMap_le _ _) hw
  · unfold crPairs at hq
    obtain ⟨w, _, e⟩ := List.mem_filterMap.mp hq
    split at e
    · cases e
    · rename_i ne
      cases e
      have rng : ∀ y ∈ wayAt ps x w, 0 ≤ y ∧ y < (hereOf ps x).length := fun y hy => by
        unfold wayAt someOf at hy
        obtain ⟨t, ht, rfl⟩ := List.mem_map.mp hy
        have := of_decide_eq_true (List.mem_filter.mp ht).2
        have := List.idxOf_lt_length_of_mem this
        omega
      have srt : (wayAt ps x w).Pairwise (· < ·) := wayAt_srt ps x w
      generalize wayAt ps x w = l at ne rng srt
      cases l with
      | nil => exact absurd rfl ne
      | cons a r =>
        have h1 := rng a List.mem_cons_self
        have hlast : (ends (a :: r)).2 ∈ a :: r := by
          show (a :: r).getLastD 0 ∈ a :: r
          rw [List.getLastD_cons]
          exact lastD_mem r a
        have h2 := rng _ hlast
        refine ⟨h1.1, ?_, h2.2⟩
        rcases List.mem_cons.mp hlast with e | e
        · rw [e]; exact Int.le_refl _
        · exact Int.le_of_lt ((List.pairwise_cons.mp srt).1 _ e)
/-- how many ways lie on a tie of a tree -/
def cntT (ps : List Int) (ws : List (Int × Int)) (t : Int) : Nat := ws.countP fun w => decide (t ∈ treeTies ps w)
theorem pair_deg {ps : List Int} {ws : List (Int × Int)} {p v : Int} : ∃ t, deg (crPairs ps p ws).length (Pj (crPairs ps p ws)) v ≤ cntT ps ws t := by
  refine ⟨(hereOf ps p).getD v.toNat 0, ?_⟩
  rw [← deg_list]
  unfold cntT crPairs
  rw [List.countP_filterMap]
  refine List.countP_mono_left fun w _ h => ?_
  by_cases c : wayAt ps p w = []
  · rw [if_pos c] at h; cases h
  · rw [if_neg c] at h
    have on : On (ends (wayAt ps p w)) v := of_decide_eq_true h
    have m : v ∈ wayAt ps p w := by
      generalize wayAt ps p w = l at c on
      cases l with
      | nil => exact absurd rfl c
      | cons a r =>
        rcases on with o | o
        · rw [← o]; exact List.mem_cons_self
        · rw [← o]
          show (a :: r).getLastD 0 ∈ a :: r
          rw [List.getLastD_eq_getLast?, List.getLast?_cons]
          show r.getLast?.getD a ∈ a :: r
          cases z : r.getLast? with
          | none => exact List.mem_cons_self
          | some x => exact List.mem_cons_of_mem _ (List.mem_of_getLast? z)
    obtain ⟨t, ht, e⟩ := List.mem_map.mp m
    have i1 := of_decide_eq_true (List.mem_filter.mp ht).2
    have i2 := (List.mem_filter.mp ht).1
    have l1 := List.idxOf_lt_length_of_mem i1
    rw [← e, Int.toNat_natCast, List.getD_eq_getElem?_getD, List.getElem?_eq_getElem l1]
    show decide ((hereOf ps p)[(hereOf ps p).idxOf t] ∈ treeTies ps w) = true
    rw [List.getElem_idxOf l1]
    exact decide_eq_true i2
/-- what tree_hues puts together: the lists of the crossings, and the greatest of all -/
def TreeL (ps : List Int) (ws : List (Int × Int)) (lists : List (List Int)) (mx : Int) : Prop := lists.length = ps.length + 1 ∧ (∀ p : Nat, p < ps.length + 1 → ∃ L, IsLoad (crPairs ps (p : Int) ws) L ∧ lists.getD p [] = crossF (crPairs ps (p : Int) ws) (3 * L / 2) (crPairs ps (p : Int) ws).length) ∧ mx ∈ [-1] ++ lists.flatten ∧ ∀ x ∈ [-1] ++ lists.flatten, x ≤ mx
theorem TreeL.one {ps : List Int} {ws : List (Int × Int)} {l1 l2 : List (List Int)} {m1 m2 : Int} (a : TreeL ps ws l1 m1) (b : TreeL ps ws l2 m2) : l1 = l2 ∧ m1 = m2 := by
  have e : l1 = l2 := by
    refine List.ext_getElem (by rw [a.1, b.1]) fun p h1 h2 => ?_
    obtain ⟨L1, i1, e1⟩ := a.2.1 p (by have := a.1; omega)
    obtain ⟨L2, i2, e2⟩ := b.2.1 p (by have := a.1; omega)
    rw [i1.one i2, ← e2] at e1
    rw [List.getD_eq_getElem?_getD, List.getElem?_eq_getElem h1, List.getD_eq_getElem?_getD, List.getElem?_eq_getElem h2] at e1
    exact e1
  subst e
  have := a.2.2.2 m2 b.2.2.1
  have := b.2.2.2 m1 a.2.2.1
  exact ⟨rfl, by omega⟩
theorem TreeL.right {ps : List Int} {ws : List (Int × Int)} {lists : List (List Int)} {mx : Int} (T : TreeOk ps) (hok : ∀ w ∈ ws, isWay (.tree ps) w.1 w.2) (a : TreeL ps ws lists mx) : (∀ p : Nat, p < ps.length + 1 → (lists.getD p []).length = (crPairs ps (p : Int) ws).length ∧ PrpL (crPairs ps (p : Int) ws) (lists.getD p [])) ∧ (∀ l ∈ lists, ∀ h ∈ l, 0 ≤ h) ∧ -1 ≤ mx ∧
    (togH ps ws lists mx).length = ws.length ∧ (∀ h ∈ togH ps ws lists mx, 0 ≤ h ∧ h ≤ mx) ∧ (∀ i j, i < ws.length → j < ws.length → i ≠ j → (∃ t, t ∈ treeTies ps (ws.getD i (0, 0)) ∧ t ∈ treeTies ps (ws.getD j (0, 0))) → (togH ps ws lists mx).getD i 0 ≠ (togH ps ws lists mx).getD j 0) ∧
    (∀ L : Nat, (∀ t, cntT ps ws t ≤ L) → ∀ h ∈ togH ps ws lists mx, h < ((3 * L / 2 : Nat) : Int)) := by
  obtain ⟨hl, h1, h2, h3⟩ := a
  have r : ∀ p : Nat, p < ps.length + 1 → (lists.getD p []).length = (crPairs ps (p : Int) ws).length ∧ PrpL (crPairs ps (p : Int) ws) (lists.getD p []) := fun p hp => by
    obtain ⟨L, i, e⟩ := h1 p hp
    obtain ⟨a, b, _⟩ := cross_right (many := 0) i
    rw [e]; exact ⟨a, b⟩
  have b : ∀ p : Nat, p < ps.length + 1 → ∀ h ∈ lists.getD p [], 0 ≤ h ∧ h ≤ mx := fun p hp h hh => by
    obtain ⟨L, i, e⟩ := h1 p hp
    obtain ⟨_, _, c⟩ := cross_right (many := 0) i
    have hm : h ∈ lists.flatten := List.mem_flatten.mpr ⟨lists.getD p [], by rw [List.getD_eq_getElem?_getD, List.getElem?_eq_getElem (by omega)]; exact List.getElem_mem _, hh⟩
    rw [e] at hh
    exact ⟨(c h hh).1, h3 h (List.mem_append_right _ hm)⟩
  have hmx : -1 ≤ mx := h3 (-1) (by simp)
  obtain ⟨r1, r2, r3⟩ := togH_right T hok hl r b hmx
  refine ⟨r, fun l hlm h hh => ?_, hmx, r1, r2, r3, fun L hL h hh => ?_⟩
  · obtain ⟨p, hp, rfl⟩ := List.mem_iff_getElem.mp hlm
    refine (b p (by omega) h ?_).1
    rw [List.getD_eq_getElem?_getD, List.getElem?_eq_getElem hp]
    exact hh
  · have hb := r2 h hh
    rcases List.mem_append.mp h2 with z | z
    · have : mx = -1 := by simpa using z
      omega
    · obtain ⟨l, hlm, hx⟩ := List.mem_flatten.mp z
      obtain ⟨p, hp, rfl⟩ := List.mem_iff_getElem.mp hlm
      obtain ⟨L', i, e⟩ := h1 p (by omega)
      obtain ⟨_, _, c⟩ := cross_right (many := 0) i
      rw [List.getD_eq_getElem?_getD, List.getElem?_eq_getElem hp] at e
      have e' : lists[p] = crossF (crPairs ps (p : Int) ws) (3 * L' / 2) (crPairs ps (p : Int) ws).length := e
      rw [e'] at hx
      have c2 := (c mx hx).2
      have : L' ≤ L := by
        rcases i.2 with z | ⟨v, hv⟩
        · omega
        · obtain ⟨t, ht⟩ := pair_deg (ps := ps) (ws := ws) (p := (p : Int)) (v := v)
          have := hL t
          omega
      omega
/-- a comprehension of new lists over a range, of which each keeps P -/
theorem lc_lstsR {σ : L2.St} {vs : List Nat} {g : TG} {te : TE} {H1 : Hp} {QD : Addr → Hp → Prop} {lo : Int} {n : Nat} (P : Nat → List Int → Prop) (hz : n ≤ 50000)
    (step : ∀ (i : Nat) H', i < n → Same H1 H' → ∀ (R : V → Hp → Prop), (∀ c l H'', H' c = none → Same H' H'' → H'' c = some (.lst (List.map V.int l)) → P i l → R (.ref c) H'') →
      g (.int (lo + (i : Nat))) (wipe σ vs) H' fun σ2 H2 => wipe σ2 vs = wipe σ vs ∧ te σ2 H2 R)
    (h : ∀ D cs (lists : List (List Int)) H', H1 D = none → Same H1 H' → H' D = some (.lst (List.map V.ref cs)) → cs.length = n → lists.length = n → (∀ (i : Nat) c l, cs[i]? = some c → lists[i]? = some l → c ≠ D ∧ H1 c = none ∧ H' c = some (.lst (List.map V.int l))) → (∀ i, i < n → P i (lists.getD i [])) → QD D H') (hg : ∀ x σ' H (q q' : L2.St → Hp → Prop), (∀ s H, q s H → q' s H) → g x σ' H q → g x σ' H q') :
    ∀ D, H1 D = none → ∃ W : Nat → Nat → Hp → Prop, (∃ m, W 0 m (upd H1 D (.lst []))) ∧ ∀ i m H, W i m H →
      ((Itr lo n).stop i H ∧ QD D H) ∨ ((Itr lo n).go i H ∧ ∃ Nx : Hp → Prop, (∀ H', Nx H' → ∃ m', m' < m ∧ W (i + 1) m' H') ∧ ∀ x H', (Itr lo n).yld i H x H' → g x (wipe σ vs) H' fun σ2 H2 => wipe σ2 vs = wipe σ vs ∧ tYes σ2 H2 fun b H3 =>
        if b = true then te σ2 H3 fun y H4 => ∃ acc, H4 D = some (.lst acc) ∧ acc.length < sizeLine ∧ Nx (upd H4 D (.lst (acc ++ [y]))) else Nx H3) := by
  refine fun D nD => lc_range (fun i H => Same H1 H ∧ ∃ (cs : List Addr) (ls : List (List Int)), H D = some (.lst (List.map V.ref cs)) ∧ cs.length = i ∧ ls.length = i ∧ (∀ (j : Nat) c l, cs[j]? = some c → ls[j]? = some l → c ≠ D ∧ H1 c = none ∧ H c = some (.lst (List.map V.int l))) ∧ ∀ j, j < i → P j (ls.getD j [])) ⟨same_new nD, [], [], upd_same, rfl, rfl, (fun j c l hc => by simp at hc), fun j hj => by omega⟩ ?_ ?_
  · rintro i H hi ⟨sm, cs, ls, hD, hly, hls, hcs, hP⟩
    refine hg _ _ _ _ _ (fun s2 H2 hh => ⟨hh.1, k_yes (iteT hh.2)⟩) (step i H hi sm _ (fun c l H'' nc s2 ec hPl => ?_))
    have cD : c ≠ D := fun z => by rw [z, hD] at nc; cases nc
    refine ⟨_, s2 _ _ hD, szl (by rw [List.length_map]; omega), same_mut (sm.trans s2) nD, cs ++ [c], ls ++ [l], by rw [upd_same, List.map_append]; rfl, by simp [hly], by simp [hls], fun j c' l' hc' hl' => ?_, fun j hj => ?_⟩
    · by_cases hj : j < cs.length
      · rw [List.getElem?_append_left hj] at hc'
        rw [List.getElem?_append_left (by omega)] at hl'
        obtain ⟨n1, n2, e1⟩ := hcs j c' l' hc' hl'
        exact ⟨n1, n2, by rw [upd_ne n1]; exact s2 _ _ e1⟩
      · have : j = cs.length := by
          have := (List.getElem?_eq_some_iff.mp hc').1
          simp at this
          omega
        subst this
        rw [List.getElem?_append_right (Nat.le_refl _), Nat.sub_self] at hc'
        rw [List.getElem?_append_right (by omega), show cs.length - ls.length = 0 by omega] at hl'
        have ec' : c' = c := by simpa using hc'.symm
        have el' : l' = l := by simpa using hl'.symm
        rw [ec', el']
        exact ⟨cD, sm.free nc, by rw [upd_ne cD]; exact ec⟩
    · by_cases c0 : j = i
      · subst c0
        have : (ls ++ [l]).getD j [] = l := by rw [List.getD_eq_getElem?_getD, List.getElem?_append_right (by omega), show j - ls.length = 0 by omega]; rfl
        rw [this]; exact hPl
      · have : (ls ++ [l]).getD j [] = ls.getD j [] := by rw [List.getD_eq_getElem?_getD, List.getD_eq_getElem?_getD, List.getElem?_append_left (by omega)]
        rw [this]; exact hP j (by omega)
  · rintro H ⟨sm, cs, ls, hD, hly, hls, hcs, hP⟩
    exact h D cs ls H nD sm hD hly hls hcs hP


def pr_tree_hues (K : PySem.W.Frag) (A : Ad) (v0 v1 : V) (H : Hp) (Q : VK) (E : XK) : Prop := ∃ (M : ANet) (ws : List (Int × Int)) (x : Int) (due : Due), Dp K H v0 M.d ∧ M.lens ∧ Dp K H v1 (dPairs ws) ∧ ws.length ≤ 60 ∧ DueIs 1 M ws x due ∧ DueQ A H Q E due
def t_tree_hues (K : PySem.W.Frag) (A : Ad) (E : XK) : TS :=
  (tSeq (tDrop (tCall (sp_must_be_kind K A) [] E (tCons (tVar 0) (tCons (tC (.str (Str.ofString "tree"))) tNil))))
    (tSeq (tDrop (tCall (sp_must_be_ways K A) [] E (tCons (tVar 0) (tCons (tVar 1) tNil))))
    (tRet (tCall (sp_put_together K) [] E0 (tCons (tVar 0) (tCons (tVar 1) (tCons (tLc (iRng1 (tCons (tCall (sp_places_of K) [] E0 (tCons (tVar 0) tNil)) tNil)) (gName 2) tYes (tCall (sp_cross_hues K A) [] E0 (tCons (tOp (rIxT K) (tCall (sp_crossing_of K) [] E0 (tCons (tVar 0) (tCons (tVar 1) (tCons (tVar 2) tNil)))) (tC (.int 0))) tNil)) [2]) tNil)))))))
theorem pure_tree_hues {v0 v1 : V} {H : Hp} {Q : VK} {E : XK} (hh : pr_tree_hues K A v0 v1 H Q E) : t_tree_hues K A E ⟨fun _ H' => Q .non H', Q, fun _ _ => False, fun _ _ => False⟩ [some v0, some v1, none] H := by
  obtain ⟨M, ws, x, due, d0, hl, d1, hz, hd, q⟩ := hh
  unfold t_tree_hues
  wtm_at "s"
  cases due with
  | net => exact ⟨_, _, rfl, M, _, rfl, d0, hl, .inl ⟨hd, q⟩⟩
  | other =>
    obtain ⟨N, e, ok, hk⟩ := hd
    exact ⟨_, _, rfl, M, _, rfl, d0, hl, .inr (.inl ⟨N, e, ok, hk, q⟩)⟩
  | way i =>
    obtain ⟨ps, rfl, T, fb⟩ := hd
    refine ⟨_, _, rfl, _, _, rfl, d0, hl, .inr (.inr ⟨.tree ps, rfl, T, rfl, ?_⟩)⟩
    wtm_at "s"
    refine ⟨_, _, rfl, .tree ps, ws, d0, d1, by omega, fun all => (no_bad all fb).elim, fun j fj d nd => ?_⟩
    rw [bad_one fj fb]
    exact q d nd
  | place => exact absurd hd.1 (by decide)
  | well =>
    obtain ⟨_, ps, rfl, T, hok, _⟩ := hd
    have lps : ps.length < 60 := T.2.1
    refine ⟨_, _, rfl, _, _, rfl, d0, hl, .inr (.inr ⟨.tree ps, rfl, T, rfl, ?_⟩)⟩
    wtm_at "s"
    refine ⟨_, _, rfl, .tree ps, ws, d0, d1, by omega, fun _ => ?_, fun j fj => (no_bad hok fj).elim⟩
    wtm_at "s"
    refine ⟨_, rfl, .tree ps, d0, ?_⟩
    rw [show Net.places (.tree ps) = ((ps.length + 1 : Nat) : Int) from by show (ps.length : Int) + 1 = _; omega]
    wtm_at "s"
    rw [Int.toNat_natCast]
    refine lc_lstsR (fun p l => ∃ L, IsLoad (crPairs ps (p : Int) ws) L ∧ l = crossF (crPairs ps (p : Int) ws) (3 * L / 2) (crPairs ps (p : Int) ws).length) (by omega) ?_ (fun D cs lists H1 nD s1 eD lcs lli hcs hP => ?_) (fun x σ' H q q' h hh => h _ _ hh)
    · intro p H' hp sm R g
      wtm_at "s"
      refine ⟨_, _, _, rfl, ps, ws, (0 + (p : Nat)), rfl, dp_same sm d0, T, dp_same sm d1, by omega, hok, fun cp H2 cn => ?_⟩
      rw [Int.zero_add] at cn
      have s2 : Same H' H2 := cn.same
      obtain ⟨ac, vx, vy, e1, hac, hcx, _⟩ := dp_tup2 cn.dp
      cases e1
      wtm_at "s"
      refine ⟨_, rfl, _, crPairs ps (p : Int) ws, hcx, CrOk.tree (by omega) hz, fun L f H3 hL nf s3 ef => ?_⟩
      exact g f _ H3 (s2.free nf) (s2.trans s3) ef ⟨L, hL, rfl⟩
    · wtm_at "s"
      have mk : ∀ mx, mx ∈ [-1] ++ lists.flatten → (∀ x ∈ [-1] ++ lists.flatten, x ≤ mx) → TreeL ps ws lists mx := fun mx a b => ⟨lli, hP, a, b⟩
      obtain ⟨mx0, m1, m2⟩ : ∃ mx, mx ∈ [-1] ++ lists.flatten ∧ ∀ x ∈ [-1] ++ lists.flatten, x ≤ mx := by
        have key : ∀ (l : List Int) (a : Int), ∃ m, m ∈ a :: l ∧ ∀ x ∈ a :: l, x ≤ m := by
          intro l
          induction l with
          | nil => intro a; exact ⟨a, List.mem_cons_self, fun x hx => by rw [List.mem_singleton.mp hx]; exact Int.le_refl _⟩
          | cons b r ih =>
            intro a
            obtain ⟨m, h1, h2⟩ := ih b
            by_cases c : a ≤ m
            · exact ⟨m, List.mem_cons_of_mem _ h1, fun x hx => by
                rcases List.mem_cons.mp hx with rfl | hx
                · exact c
                · exact h2 x hx⟩
            · exact ⟨a, List.mem_cons_self, fun x hx => by
                rcases List.mem_cons.mp hx with rfl | hx
                · exact Int.le_refl _
                · have := h2 x hx; omega⟩
        exact key lists.flatten (-1)
      obtain ⟨r1, r2, _⟩ := (mk mx0 m1 m2).right T hok
      refine ⟨_, _, _, rfl, ps, ws, lists, dp_same s1 d0, T, dp_same s1 d1, hz, hok, ⟨D, cs, rfl, eD, by omega, fun j c l hc hl => (hcs j c l hc hl).2.2⟩, lli, r1, r2, fun mx p H2 a b np s2 e2 => ?_⟩
      exact q p H2 (s1.trans s2)
abbrev sp_tree_hues (K : PySem.W.Frag) (A : Ad) : Sp := fun vs H Q E => ∃ v0 v1, vs = [v0, v1] ∧ pr_tree_hues K A v0 v1 H Q E
theorem ok_tree_hues (T : Txt K mg A) : FnOk P w K mg base (L2.CX P w) 7 A.a_tree_hues A.d_tree_hues ["net", "ways"] (sp_tree_hues K A) := by
  refine T.F_tree_hues.okX sc_tree_hues (fun vs H Q E h => by obtain ⟨v0, v1, rfl, _⟩ := h; rfl) (fun cdv A0 outer s H vs Q E hr h => ?_)
  obtain ⟨v0, v1, rfl, h⟩ := h
  exact ⟨t_tree_hues K A E, (pss_cons (ps_expr (pe_call (E := E) (ok_must_be_kind T) (hr.mono (by decide)) (by rfl) T.g_must_be_kind T.F_must_be_kind.kp T.b_must_be_kind .nil (passes_call (takes_of rfl rfl rfl rfl) (fun _ _ _ _ h => h)) (pa_cons (pv 0) (pa_cons pe_str pa_nil))))
      (pss_cons (ps_expr (pe_call (E := E) (ok_must_be_ways T) (hr.mono (by decide)) (by rfl) T.g_must_be_ways T.F_must_be_ways.kp T.b_must_be_ways .nil (passes_call (takes_of rfl rfl rfl rfl) (fun _ _ _ _ h => h)) (pa_cons (pv 0) (pa_cons (pv 1) pa_nil))))
      (pss_one (ps_ret (pe_call (ok_put_together T) (hr.mono (by decide)) (by rfl) T.g_put_together T.F_put_together.kp T.b_put_together .nil pass0 (pa_cons (pv 0) (pa_cons (pv 1) (pa_cons (pe_lc (own := [("place", 2)]) (by rfl) sc_tree_hues.nd (pi_range1 (by rfl) T.z_range (pa_cons (pe_call (ok_places_of T) (hr.mono (by decide)) (by rfl) T.g_places_of T.F_places_of.kp T.b_places_of .nil pass0 (pa_cons (pv 0) pa_nil)) pa_nil)) (blkOk_by (own := [("place", 2)]) (N := ["net", "ways", "place"]) (sc := defScope s_tree_hues) (by decide +kernel)) (fun _ _ _ _ _ => (pg_name (i := 2) sc_tree_hues.nd rfl (Or.inl rfl))) (fun _ _ _ _ _ => pts_nil) (fun _ _ _ _ _ => (pe_call (ok_cross_hues T) (hr.mono (by decide)) (by rfl) T.g_cross_hues T.F_cross_hues.kp T.b_cross_hues .nil pass0 (pa_cons (pe_ix ix_tup (pe_call (ok_crossing_of T) (hr.mono (by decide)) (by rfl) T.g_crossing_of T.F_crossing_of.kp T.b_crossing_of .nil pass0 (pa_cons (pv 0) (pa_cons (pv 1) (pa_cons (pv 2) pa_nil)))) pe_int (fun _ _ => rfl)) pa_nil)))) pa_nil)))))))), pure_tree_hues h⟩


def pr_law_purse (K : PySem.W.Frag) (v0 : V) (H : Hp) (Q : VK) (_ : XK) : Prop := ∃ (a : Addr) (ns : List Int), v0 = .ref a ∧ SqL K H a (ns.map V.int) ∧ ns.length ≤ 63 ∧ ∀ pu ce n H', Same H H' → H pu = none → H ce = none → Pu H' pu ce n 0 → Q (.ref pu) H'
def t_law_purse (K : PySem.W.Frag) : TS :=
  (tSeq (tAsg (tSl (rSlL K) (tVar 0) tNoPart (tPart (tC (.int 63)))) (gName 1))
    (tSeq (tIfS (tTest (tOp (rEqD K) (tVar 1) (tLst tNil))) (tAsg (tLst (tCons (tC (.int 0)) tNil)) (gName 1)) tNext)
    (tRet (tLst (tCons (tVar 1) (tCons (tC (.int 0)) tNil))))))
theorem cut63 {ns : List Int} (h : ns.length ≤ 63) : cutV (ns.map V.int) none (some 63) = ns.map V.int := by
  unfold cutV
  rw [HT.sIx_none, show HT.sIx (ns.map V.int).length (ns.map V.int).length (some 63) = min 63 (ns.map V.int).length from HT.sIx_nat _ _ 63]
  rw [List.drop_zero, List.length_map]
  exact List.take_of_length_le (by rw [List.length_map]; omega)
theorem pure_law_purse {v0 : V} {H : Hp} {Q : VK} {E : XK} (h : pr_law_purse K v0 H Q E) : t_law_purse K ⟨fun _ H' => Q .non H', Q, fun _ _ => False, fun _ _ => False⟩ [some v0, none] H := by
  obtain ⟨a, ns, rfl, ha, hz, q⟩ := h
  unfold t_law_purse
  wtm_at "s"
  refine k_slL ha (fun ce H1 nce sm1 hce => ?_)
  rw [cut63 hz] at hce
  wtm_at "s"
  refine ⟨sz (by simp), fun em nem => ?_⟩
  have hce2 : upd H1 em (.lst []) ce = some (.lst (ns.map V.int)) := same_new nem _ _ hce
  have sm2 : Same H (upd H1 em (.lst [])) := sm1.trans (same_new nem)
  refine k_eqD (c := dInts ns) (d := dInts []) (n := 1) (dp_of_ints (sl hce2)) (dp_of_ints (ns := []) (sl upd_same)) (sh_ints ns) (sh_ints []) (by decide) ?_
  cases ns with
  | nil =>
    refine k_bl ?_
    refine k_itT rfl ?_
    wtm_at "s"
    refine ⟨sz (by simp), fun c2 nc2 => ?_⟩
    wtm_at "s"
    refine ⟨sz (by simp), fun pu npu => ?_⟩
    have hc2 : upd (upd H1 em (.lst [])) c2 (.lst [.int 0]) c2 = some (.lst ([(0 : Int)].map V.int)) := upd_same
    exact q pu c2 1 _ (sm2.trans ((same_new nc2).trans (same_new npu))) ((sm2.trans (same_new nc2)).free npu) (sm2.free nc2) ⟨upd_same, ⟨[0], rfl, same_new npu _ _ hc2⟩, by decide, by decide, by decide⟩
  | cons x r =>
    refine k_bl ?_
    refine k_itF rfl ?_
    wtm_at "s"
    refine ⟨sz (by simp), fun pu npu => ?_⟩
    exact q pu ce (x :: r).length _ (sm2.trans (same_new npu)) (sm2.free npu) nce ⟨upd_same, ⟨_, rfl, same_new npu _ _ hce2⟩, by simp, hz, by decide⟩
abbrev sp_law_purse (K : PySem.W.Frag) : Sp := fun vs H Q E => ∃ v0, vs = [v0] ∧ pr_law_purse K v0 H Q E
theorem ok_law_purse (T : Txt K mg A) : FnOk P w K mg base CX0 1 A.a_law_purse A.d_law_purse ["_law_script"] (sp_law_purse K) := by
  refine T.F_law_purse.ok sc_law_purse (fun vs H Q E h => by obtain ⟨v0, rfl, _⟩ := h; rfl) (fun cdv A0 outer s H vs Q E hr h => ?_)
  obtain ⟨v0, rfl, h⟩ := h
  exact ⟨t_law_purse K, (pss_cons (ps_set (i := 1) sc_law_purse.nd rfl (Or.inl rfl) (pe_slice sl_list (pv 0) po_none (po_some pe_int)))
      (pss_cons (ps_if (pt_cmpR (op_eqD hr.units) (pv 1) (pe_lst pa_nil) (nomark _)) (pss_one (ps_set (i := 1) sc_law_purse.nd rfl (Or.inl rfl) (pe_lst (pa_cons pe_int pa_nil)))) pss_nil)
      (pss_one (ps_ret (pe_lst (pa_cons (pv 1) (pa_cons pe_int pa_nil))))))), pure_law_purse h⟩
def pr_law_draw (K : PySem.W.Frag) (v0 v1 : V) (H : Hp) (Q : VK) (_ : XK) : Prop := ∃ pu ce n t m, v0 = .ref pu ∧ v1 = .int m ∧ Pu H pu ce n t ∧ t < 1000000 ∧ 0 < m ∧ m < 2 ^ 200 ∧ ∀ r H', 0 ≤ r → r < m → Pu H' pu ce n (t + 1) → Same (hid [pu, ce] H) (hid [pu, ce] H') → Q (.int r) H'
def t_law_draw (K : PySem.W.Frag) : TS :=
  (tSeq (tAsg (tVar 0) (gUnl K 2 (gCons (gName 2) (gCons (gName 3) gNil))))
    (tSeq (tAsg (tOp xMod (tVar 3) (tCB (rLenX K) (tCons (tVar 2) tNil))) (gName 4))
    (tSeq (tAsg (tOp (rIxL K) (tVar 2) (tVar 4)) (gName 5))
    (tSeq (tAsg (tOp xAdd (tVar 3) (tC (.int 1))) (gSub (tVar 0) (tC (.int 1)) rSetL))
    (tSeq (tIfS (tTest (tOp xGe (tVar 5) (tOp xPow (tC (.int 10)) (tC (.int 18))))) (tSeq (tAsg (tOp xDivW (tVar 5) (tVar 1)) (gSub (tVar 2) (tVar 4) rSetL))
    (tRet (tOp xMod (tVar 5) (tVar 1)))) tNext)
    (tSeq (tAsg (tOp xMod (tOp xAdd (tOp xAdd (tOp xMul (tOp xMod (tVar 5) (tC (.int 2147483647))) (tC (.int 48271))) (tOp xMul (tOp xMul (tVar 3) (tVar 3)) (tC (.int 69621)))) (tC (.int 7))) (tC (.int 2147483647))) (gName 6))
    (tSeq (tAsg (tOp xMod (tOp xMul (tVar 6) (tVar 6)) (tC (.int 2147483629))) (gName 6))
    (tSeq (tAsg (tOp xMod (tOp xMul (tVar 6) (tVar 6)) (tC (.int 2147483587))) (gName 6))
    (tSeq (tIfS (tTest (tOp xGt (tVar 1) (tOp xPow (tC (.int 10)) (tC (.int 9))))) (tSeq (tAsg (tOp xMod (tOp xAdd (tOp xAdd (tOp xMul (tVar 6) (tC (.int 48271))) (tOp xMul (tVar 3) (tC (.int 7919)))) (tC (.int 500))) (tC (.int 2147483629))) (gName 7))
    (tAsg (tOp xMul (tVar 6) (tOp xAdd (tOp xPow (tVar 7) (tC (.int 3))) (tC (.int 1)))) (gName 6))) tNext)
    (tRet (tOp xMod (tVar 6) (tVar 1))))))))))))
theorem pure_law_draw {v0 v1 : V} {H : Hp} {Q : VK} {E : XK} (h : pr_law_draw K v0 v1 H Q E) : t_law_draw K ⟨fun _ H' => Q .non H', Q, fun _ _ => False, fun _ _ => False⟩ [some v0, some v1, none, none, none, none, none, none] H := by
  obtain ⟨pu, ce, n, t, m, rfl, rfl, hP, ht, hm0, hm1, q⟩ := h
  obtain ⟨cs, hl, hc⟩ := hP.hc
  have hp := hP.hp
  have n0 := hP.n0
  have t0 := hP.t0
  have ne := hP.ne
  unfold t_law_draw
  wtm_at "s"
  refine k_gunl (sl hp) rfl ?_
  wtm_at "s"
  have a0 : 0 ≤ t % (cs.length : Int) := Int.emod_nonneg _ (by omega)
  have a1 : t % (cs.length : Int) < cs.length := Int.emod_lt_of_pos _ (by omega)
  refine k_ixI (sl hc) a0 a1 ?_
  wtm_at "s"
  refine k_setL hp (j := 1) rfl ?_
  have hc1 : upd H pu (.lst [.ref ce, .int (t + 1)]) ce = some (.lst (cs.map V.int)) := by rw [upd_ne ne.symm]; exact hc
  have P1 : Pu (upd H pu (.lst [.ref ce, .int (t + 1)])) pu ce n (t + 1) := ⟨upd_same, ⟨cs, hl, hc1⟩, n0, hP.n1, by omega⟩
  have S1 : Same (hid [pu, ce] H) (hid [pu, ce] (upd H pu (.lst [.ref ce, .int (t + 1)]))) := same_hid_upd (Same.refl _) (by simp)
  wtm_at "s"
  refine k_it (fun c1 => ?_) (fun c1 => ?_)
  · wtm_at "s"
    refine k_divW (wide_div hm0 (b := 201) (by omega) (by decide) (by decide)) ?_
    wtm_at "s"
    refine k_setL hc1 (ixN_of a0 (by rw [List.length_map]; exact a1)) ?_
    wtm_at "s"
    refine q _ _ (Int.emod_nonneg _ (by omega)) (Int.emod_lt_of_pos _ hm0) ⟨by rw [upd_ne ne]; exact upd_same, ⟨_, ?_, by rw [upd_same, map_set_int]⟩, n0, hP.n1, by omega⟩ (same_hid_upd S1 (by simp))
    rw [List.length_set]; exact hl
  · wtm_at "s"
    refine k_it (fun c2 => ?_) (fun c2 => ?_)
    · wtm_at "s"
      refine k_pow ⟨by decide, by decide, by omega⟩ ?_
      wtm_at "s"
      exact q _ _ (Int.emod_nonneg _ (by omega)) (Int.emod_lt_of_pos _ hm0) P1 S1
    · wtm_at "s"
      exact q _ _ (Int.emod_nonneg _ (by omega)) (Int.emod_lt_of_pos _ hm0) P1 S1
abbrev sp_law_draw (K : PySem.W.Frag) : Sp := fun vs H Q E => ∃ v0 v1, vs = [v0, v1] ∧ pr_law_draw K v0 v1 H Q E
theorem ok_law_draw (T : Txt K mg A) : FnOk P w K mg base CX0 1 A.a_law_draw A.d_law_draw ["_law_purse_here", "_law_out_of"] (sp_law_draw K) := by
  refine T.F_law_draw.ok sc_law_draw (fun vs H Q E h => by obtain ⟨v0, v1, rfl, _⟩ := h; rfl) (fun cdv A0 outer s H vs Q E hr h => ?_)
  obtain ⟨v0, v1, rfl, h⟩ := h
  exact ⟨t_law_draw K, (pss_cons (ps_asg (pv 0) (pg_unl (by rfl) (pgs_cons (pg_name (i := 2) sc_law_draw.nd rfl (Or.inl rfl)) (pgs_cons (pg_name (i := 3) sc_law_draw.nd rfl (Or.inl rfl)) pgs_nil))))
      (pss_cons (ps_set (i := 4) sc_law_draw.nd rfl (Or.inl rfl) (pe_op op_mod (pv 3) (pe_callB q_len (by rfl) T.z_len (by decide +kernel) (pa_cons (pv 2) pa_nil))))
      (pss_cons (ps_set (i := 5) sc_law_draw.nd rfl (Or.inl rfl) (pe_ix ix_list (pv 2) (pv 4) (fun _ _ => rfl)))
      (pss_cons (ps_asg (pe_op op_add (pv 3) pe_int) (pg_sub (pv 0) pe_int set_list))
      (pss_cons (ps_if (pt_cmpR op_ge (pv 5) (pe_op op_pow pe_int pe_int) (nomark _)) (pss_cons (ps_asg (pe_op op_fdivW (pv 5) (pv 1)) (pg_sub (pv 2) (pv 4) set_list))
      (pss_one (ps_ret (pe_op op_mod (pv 5) (pv 1))))) pss_nil)
      (pss_cons (ps_set (i := 6) sc_law_draw.nd rfl (Or.inl rfl) (pe_op op_mod (pe_op op_add (pe_op op_add (pe_op op_mul (pe_op op_mod (pv 5) pe_int) pe_int) (pe_op op_mul (pe_op op_mul (pv 3) (pv 3)) pe_int)) pe_int) pe_int))
      (pss_cons (ps_set (i := 6) sc_law_draw.nd rfl (Or.inl rfl) (pe_op op_mod (pe_op op_mul (pv 6) (pv 6)) pe_int))
      (pss_cons (ps_set (i := 6) sc_law_draw.nd rfl (Or.inl rfl) (pe_op op_mod (pe_op op_mul (pv 6) (pv 6)) pe_int))
      (pss_cons (ps_if (pt_cmpR op_gt (pv 1) (pe_op op_pow pe_int pe_int) (nomark _)) (pss_cons (ps_set (i := 7) sc_law_draw.nd rfl (Or.inl rfl) (pe_op op_mod (pe_op op_add (pe_op op_add (pe_op op_mul (pv 6) pe_int) (pe_op op_mul (pv 3) pe_int)) pe_int) pe_int))
      (pss_one (ps_set (i := 6) sc_law_draw.nd rfl (Or.inl rfl) (pe_op op_mul (pv 6) (pe_op op_add (pe_op op_pow (pv 7) pe_int) pe_int))))) pss_nil)
      (pss_one (ps_ret (pe_op op_mod (pv 6) (pv 1))))))))))))), pure_law_draw h⟩
/-- draw(purse, [..][draw(purse, n)]) -/
theorem rd_pickP {σ : L2.St} {i : Nat} {pu ce : Addr} {n : Nat} {t : Int} {cs : List Int} {ta : TA} {hi : Int} {H : Hp} {Q : VK} (hv : σ[i]? = some (some (.ref pu))) (L : Pu H pu ce n t) (ht : t < 900000)
    (hta : ∀ (H : Hp) (R : List V → Hp → Prop), R (cs.map V.int) H → ta σ H R) (hc : cs.length ≤ 100) (c0 : 0 < cs.length) (hb : ∀ c ∈ cs, 1 ≤ c ∧ c ≤ hi) (hh : hi < 2 ^ 100)
    (q : ∀ d H', 0 ≤ d → d < hi → Pu H' pu ce n (t + 2) → Same (hid [pu, ce] H) (hid [pu, ce] H') → Q (.int d) H') :
    tCall (sp_law_draw K) [] E0 (tCons (tVar i) (tCons (tOp (rIxL K) (tLst ta) (tCall (sp_law_draw K) [] E0 (tCons (tVar i) (tCons (tC (.int cs.length)) tNil)))) tNil)) σ H Q := by
  refine k_call (k_cons (k_var hv (k_cons (k_op (k_lst (hta _ _ ⟨sz (by rw [List.length_map]; omega), fun dl ndl => ?_⟩))))))
  refine k_call (k_cons (k_var hv (k_cons (k_c (k_nil ?_)))))
  have ndl' := L.fresh ndl
  refine ⟨_, _, rfl, pu, ce, n, t, cs.length, rfl, rfl, L.upd ndl', by omega, by omega, by omega, fun r H2 r0 r1 L2 S2 => ?_⟩
  refine k_ixI (sl (keeps S2 upd_same ndl')) r0 r1 ?_
  have hm := hb _ (getD_memI r0 r1)
  refine k_nil ?_
  refine ⟨_, _, rfl, pu, ce, n, t + 1, _, rfl, rfl, L2, by omega, by omega, by omega, fun d H3 d0 d1 L3 S3 => ?_⟩
  refine q d H3 d0 (by omega) ?_ ((same_hid_new ndl).trans (S2.trans S3))
  rw [show t + 2 = t + 1 + 1 by omega]; exact L3
/-- a comprehension over a list, each turn gives a new thing of which F tells the data -/
theorem lc_dp {σ : L2.St} {vs : List Nat} {g : TG} {te : TE} {H1 : Hp} {QD : Addr → Hp → Prop} {α : Type} {a : Addr} {xs : List V} (S0 : List Addr) (hS : ∀ b ∈ S0, H1 b ≠ none) (hs : SqL K H1 a xs) (ps : List α) (hl : xs.length = ps.length) (hz : ps.length ≤ 50000) (F : α → PyData)
    (step : ∀ (i : Nat) x p H', xs[i]? = some x → ps[i]? = some p → Same H1 H' → ∀ (R : V → Hp → Prop), (∀ y H'', Same H' H'' → (∀ S : List Addr, (∀ b ∈ S, H' b ≠ none) → Dp K (hid S H'') y (F p)) → R y H'') →
      g x (wipe σ vs) H' fun σ2 H2 => wipe σ2 vs = wipe σ vs ∧ te σ2 H2 R)
    (h : ∀ D ys H', H1 D = none → Same H1 H' → H' D = some (.lst ys) → DpAll K (hid (D :: S0) H') ys (ps.map F) → QD D H') (hg : ∀ x σ' H (q q' : L2.St → Hp → Prop), (∀ s H, q s H → q' s H) → g x σ' H q → g x σ' H q') :
    ∃ a', V.ref a = .ref a' ∧ (∃ xs, SqL K H1 a' xs) ∧ ∀ D, H1 D = none → ∃ W : Nat → Nat → Hp → Prop, (∃ m, W 0 m (upd H1 D (.lst []))) ∧ ∀ i m H, W i m H →
      ((Itl K a').stop i H ∧ QD D H) ∨ ((Itl K a').go i H ∧ ∃ Nx : Hp → Prop, (∀ H', Nx H' → ∃ m', m' < m ∧ W (i + 1) m' H') ∧ ∀ x H', (Itl K a').yld i H x H' → g x (wipe σ vs) H' fun σ2 H2 => wipe σ2 vs = wipe σ vs ∧ tYes σ2 H2 fun b H3 =>
        if b = true then te σ2 H3 fun y H4 => ∃ acc, H4 D = some (.lst acc) ∧ acc.length < sizeLine ∧ Nx (upd H4 D (.lst (acc ++ [y]))) else Nx H3) := by
  refine ⟨a, rfl, ⟨xs, hs⟩, fun D nD => lc_list (xs := xs) (fun i H => Same H1 H ∧ ∃ ys, H D = some (.lst ys) ∧ ys.length = i ∧ DpAll K (hid (D :: S0) H) ys ((ps.take i).map F)) ⟨same_new nD, [], upd_same, rfl, .nil⟩ (fun i H _ e => e.1.seq hs) ?_ ?_⟩
  · rintro i x H hx ⟨sm, ys, hD, hly, hys⟩
    have hi : i < xs.length := (List.getElem?_eq_some_iff.mp hx).1
    obtain ⟨p, hp⟩ : ∃ p, ps[i]? = some p := ⟨ps[i]'(by omega), List.getElem?_eq_getElem (by omega)⟩
    refine hg _ _ _ _ _ (fun s2 H2 hh => ⟨hh.1, k_yes (iteT hh.2)⟩) (step i x p H hx hp sm _ (fun y H'' s2 dy => ⟨ys, s2 _ _ hD, szl (by omega), same_mut (sm.trans s2) nD, ys ++ [y], upd_same, by simp [hly], ?_⟩))
    rw [hid_upd (by simp), List.take_add_one, hp, List.map_append]
    refine dpa_app (dpa_same (hid_mono s2) hys) (.cons (dy _ fun b hb => ?_) .nil)
    rcases List.mem_cons.mp hb with e | hb
    · rw [e, hD]; exact fun z => nomatch z
    · intro z
      exact hS b hb (sm.free z)
  · rintro H ⟨sm, ys, hD, hly, hys⟩
    rw [hl, List.take_length] at hys
    exact h D ys H nD sm hD hys
/-- drawn numbers, over a range -/
theorem lc_pdraws {σ : L2.St} {vs : List Nat} {l : Nat} {tm : TE} {pu ce : Addr} {n : Nat} {m t lo : Int} {N : Nat} {H1 : Hp} {QD : Addr → Hp → Prop} {i : Nat}
    (hi : ∀ x, ((wipe σ vs).set l (some x))[i]? = some (some (.ref pu))) (hwp : ∀ x, wipe ((wipe σ vs).set l (some x)) vs = wipe σ vs)
    (L : Pu H1 pu ce n t) (ht : t + N < 900000) (hm : ∀ x H' (R : V → Hp → Prop), Same (hid [pu, ce] H1) (hid [pu, ce] H') → R (.int m) H' → tm ((wipe σ vs).set l (some x)) H' R) (m0 : 0 < m) (m1 : m < 2 ^ 100) (hN : N ≤ 10000)
    (h : ∀ D us H', H1 D = none → D ∉ [pu, ce] → Pu H' pu ce n (t + N) → Same (hid [pu, ce] H1) (hid [pu, ce] H') → H' D = some (.lst (List.map V.int us)) → us.length = N → (∀ u ∈ us, 0 ≤ u ∧ u < m) → QD D H') :
    ∀ D, H1 D = none → ∃ W : Nat → Nat → Hp → Prop, (∃ m, W 0 m (upd H1 D (.lst []))) ∧ ∀ t m' H, W t m' H →
      ((Itr lo N).stop t H ∧ QD D H) ∨ ((Itr lo N).go t H ∧ ∃ Nx : Hp → Prop, (∀ H', Nx H' → ∃ m'', m'' < m' ∧ W (t + 1) m'' H') ∧ ∀ x H', (Itr lo N).yld t H x H' → gName l x (wipe σ vs) H' fun σ2 H2 => wipe σ2 vs = wipe σ vs ∧ tYes σ2 H2 fun b H3 =>
        if b = true then tCall (sp_law_draw K) [] E0 (tCons (tVar i) (tCons tm tNil)) σ2 H3 fun y H4 => ∃ acc, H4 D = some (.lst acc) ∧ acc.length < sizeLine ∧ Nx (upd H4 D (.lst (acc ++ [y]))) else Nx H3) := by
  intro D nD
  have nD' := L.fresh nD
  have fr : hid [pu, ce] H1 D = none := by rw [hid_ne nD']; exact nD
  refine lc_range (fun j H => Pu H pu ce n (t + j) ∧ Same (hid [pu, ce] H1) (hid [pu, ce] H) ∧ ∃ us, H D = some (.lst (List.map V.int us)) ∧ us.length = j ∧ ∀ u ∈ us, 0 ≤ u ∧ u < m) ⟨by simpa using L.upd nD', same_hid_new nD, [], upd_same, rfl, fun _ z => by cases z⟩ ?_ ?_
  · rintro j H hj ⟨Lt, St, us, hD, hl, hok⟩
    refine ⟨hwp _, ?_⟩
    refine k_yes (iteT (k_call (k_cons (k_var (hi _) (k_cons (hm _ _ _ St (k_nil ?_)))))))
    refine ⟨_, _, rfl, pu, ce, n, t + j, m, rfl, rfl, Lt, by omega, m0, by omega, fun r H' r0 r1 L' S' => ?_⟩
    refine ⟨_, keeps S' hD nD', szl (by rw [List.length_map]; omega), ?_, same_hid_mut (St.trans S') fr, us ++ [r], by rw [upd_same, List.map_append]; rfl, by simp [hl], fun u hu => ?_⟩
    · have e : t + ((j + 1 : Nat) : Int) = t + j + 1 := by omega
      rw [e]; exact L'.upd nD'
    · rcases List.mem_append.mp hu with hu | hu
      · exact hok u hu
      · have e : u = r := by simpa using hu
        subst e
        exact ⟨r0, r1⟩
  · rintro H ⟨Lt, St, us, hD, hl, hok⟩
    exact h D us H nD nD' Lt St hD hl hok


/-- draw(purse, [..][draw(purse, n)]) -/
theorem pd_pick {σ : L2.St} {i : Nat} {pu ce : Addr} {n : Nat} {kk : Int} {cs : List Int} {ta : TA} {hi : Int} {H : Hp} {Q : VK} (hv : σ[i]? = some (some (.ref pu))) (L : Pu H pu ce n kk) (hk : kk < 900000)
    (hta : ∀ (H : Hp) (R : List V → Hp → Prop), R (cs.map V.int) H → ta σ H R) (hc : cs.length ≤ 100) (c0 : 0 < cs.length) (hb : ∀ c ∈ cs, 1 ≤ c ∧ c ≤ hi) (hh : hi < 2 ^ 100)
    (q : ∀ d H', 0 ≤ d → d < hi → Pu H' pu ce n (kk + 2) → Same (hid [pu, ce] H) (hid [pu, ce] H') → Q (.int d) H') :
    tCall (sp_law_draw K) [] E0 (tCons (tVar i) (tCons (tOp (rIxL K) (tLst ta) (tCall (sp_law_draw K) [] E0 (tCons (tVar i) (tCons (tC (.int cs.length)) tNil)))) tNil)) σ H Q := by
  refine k_call (k_cons (k_var hv (k_cons (k_op (k_lst (hta _ _ ⟨sz (by rw [List.length_map]; omega), fun dl ndl => ?_⟩))))))
  refine k_call (k_cons (k_var hv (k_cons (k_c (k_nil ?_)))))
  have ndl' := L.fresh ndl
  refine ⟨_, _, rfl, pu, ce, n, kk, cs.length, rfl, rfl, L.upd ndl', by omega, by omega, by omega, fun r H2 r0 r1 L2 S2 => ?_⟩
  refine k_ixI (sl (keeps S2 upd_same ndl')) r0 r1 ?_
  have hm := hb _ (getD_memI r0 r1)
  refine k_nil ?_
  refine ⟨_, _, rfl, pu, ce, n, kk + 1, _, rfl, rfl, L2, by omega, by omega, by omega, fun d H3 d0 d1 L3 S3 => ?_⟩
  refine q d H3 d0 (by omega) ?_ ((same_hid_new ndl).trans (S2.trans S3))
  rw [show kk + 2 = kk + 1 + 1 by omega]; exact L3
theorem tree_more {us : List Int} {i : Nat} {r : Int} (h : ∀ j : Nat, j < us.length → 0 ≤ us.getD j 0 ∧ us.getD j 0 ≤ j) (hl : us.length = i) (r0 : 0 ≤ r) (r1 : r < i + 1) : ∀ j : Nat, j < (us ++ [r]).length → 0 ≤ (us ++ [r]).getD j 0 ∧ (us ++ [r]).getD j 0 ≤ j := by
  intro j hj
  by_cases c : j < us.length
  · have e : (us ++ [r]).getD j 0 = us.getD j 0 := by rw [List.getD_eq_getElem?_getD, List.getD_eq_getElem?_getD, List.getElem?_append_left c]
    rw [e]; exact h j c
  · have hj' : j = us.length := by simp at hj; omega
    subst hj'
    have e : (us ++ [r]).getD us.length 0 = r := by rw [List.getD_eq_getElem?_getD, List.getElem?_append_right (Nat.le_refl _)]; simp
    rw [e]; omega
def pr_law_tree (K : PySem.W.Frag) (v0 : V) (H : Hp) (Q : VK) (_ : XK) : Prop := ∃ (pu ce : Addr) (n : Nat) (t : Int), v0 = .ref pu ∧ Pu H pu ce n t ∧ t < 800000 ∧
  ∀ p (ps : List Int) t' H', H p = none → p ∉ [pu, ce] → Pu H' pu ce n t' → t' ≤ t + 100 → Same (hid [pu, ce] H) (hid [pu, ce] H') → hid [pu, ce] H' p = some (.lst (ps.map V.int)) → TreeOk ps → Q (.ref p) H'
def t_law_tree (K : PySem.W.Frag) : TS :=
  (tSeq (tAsg (tOp xAdd (tC (.int 1)) (tCall (sp_law_draw K) [] E0 (tCons (tVar 0) (tCons (tOp (rIxL K) (tLst (tCons (tC (.int 4)) (tCons (tC (.int 9)) (tCons (tC (.int 20)) (tCons (tC (.int 59)) tNil))))) (tCall (sp_law_draw K) [] E0 (tCons (tVar 0) (tCons (tC (.int 4)) tNil)))) tNil)))) (gName 1))
    (tSeq (tAsg (tCall (sp_law_draw K) [] E0 (tCons (tVar 0) (tCons (tC (.int 4)) tNil))) (gName 2))
    (tSeq (tAsg (tLst tNil) (gName 3))
    (tSeq (tFor (iRng1 (tCons (tVar 1) tNil)) (gName 4)
      (tSeq (tAsg (tCall (sp_law_draw K) [] E0 (tCons (tVar 0) (tCons (tOp xAdd (tVar 4) (tC (.int 1))) tNil))) (gName 5))
    (tDrop (tBM K "list" rAppend (tVar 3) (tCons (tOp (rIxL K) (tLst (tCons (tVar 5) (tCons (tVar 4) (tCons (tOp xMod (tVar 5) (tC (.int 2))) (tCons (tCB rMax2 (tCons (tC (.int 0)) (tCons (tOp xSub (tVar 4) (tOp xMod (tVar 5) (tC (.int 3)))) tNil))) tNil))))) (tVar 2)) tNil)))))
    (tRet (tVar 3))))))
theorem pure_law_tree {v0 : V} {H : Hp} {Q : VK} {E : XK} (h : pr_law_tree K v0 H Q E) : t_law_tree K ⟨fun _ H' => Q .non H', Q, fun _ _ => False, fun _ _ => False⟩ [some v0, none, none, none, none, none] H := by
  obtain ⟨pu, ce, n, t, rfl, L, ht, q⟩ := h
  unfold t_law_tree
  refine k_seq (k_asg (k_op (k_c ?_)))
  refine pd_pick (cs := [4, 9, 20, 59]) (hi := 59) rfl L (by omega) (fun H R h => by wtm_at "s"; exact h) (by decide) (by decide) (by decide) (by decide) (fun d H1 d0 d1 L1 S1 => ?_)
  wtm_at "s"
  refine ⟨_, _, rfl, pu, ce, n, _, 4, rfl, rfl, L1, by omega, by decide, by decide, fun wy H2 y0 y1 L2 S2 => ?_⟩
  wtm_at "s"
  refine kL (by simp) (fun D H3 nD s3 e3 => ?_)
  have nD' := L2.fresh nD
  have S02 := S1.trans S2
  have nD0 : H D = none := fresh_hid S02 nD nD'
  have fr : hid [pu, ce] H D = none := by rw [hid_ne nD']; exact nD0
  have S03 : Same (hid [pu, ce] H) (hid [pu, ce] H3) := S02.trans (hid_mono s3)
  have L3 := L2.same s3
  wtm_at "s"
  refine forR (fun i σ' H' => ∃ (us : List Int) (t' : Int) (k4 k5 : Option V), σ' = [some (.ref pu), some (.int (1 + d)), some (.int wy), some (.ref D), k4, k5] ∧ Pu H' pu ce n t' ∧ t' ≤ t + 3 + i ∧ Same (hid [pu, ce] H) (hid [pu, ce] H') ∧ H' D = some (.lst (us.map V.int)) ∧ us.length = i ∧ ∀ j : Nat, j < us.length → 0 ≤ us.getD j 0 ∧ us.getD j 0 ≤ j)
    ⟨[], _, _, _, rfl, L3, by omega, S03, e3, rfl, fun j hj => absurd hj (by simp)⟩ ?_ ?_
  · rintro i σ' H4 hi ⟨us, t', k4, k5, rfl, L4, ht4, S4, hD, hl, hok⟩
    wtm_at "s"
    refine ⟨_, _, rfl, pu, ce, n, t', _, rfl, rfl, L4, by omega, by omega, by omega, fun one H5 o0 o1 L5 S5 => ?_⟩
    have hD5 := keeps S5 hD nD'
    wtm_at "s"
    refine k_tyL (sl hD5) ?_
    wtm_at "s"
    have m20 : 0 ≤ one % 2 := Int.emod_nonneg _ (by decide)
    have m30 : 0 ≤ one % 3 := Int.emod_nonneg _ (by decide)
    have m21 : one % 2 ≤ one := by omega
    generalize one % 2 = x2 at m20 m21 ⊢
    generalize one % 3 = x3 at m30 ⊢
    refine kL (by simp) (fun l H6 nl s6 e6 => ?_)
    have hD6 := s6 _ _ hD5
    have L6 := L5.same s6
    generalize hx4 : (if 0 + (i : Int) - x3 > 0 then 0 + (i : Int) - x3 else 0) = x4 at e6
    have b4 : 0 ≤ x4 ∧ x4 ≤ i := by rw [← hx4]; split <;> omega
    have e6' : H6 l = some (.lst (List.map V.int [one, 0 + (i : Int), x2, x4])) := e6
    wtm_at "s"
    refine k_ixI (sl e6') y0 (by simpa using y1) ?_
    have hm := getD_memI (ns := [one, 0 + (i : Int), x2, x4]) (i := wy) y0 (by simpa using y1)
    generalize [one, 0 + (i : Int), x2, x4].getD wy.toNat 0 = z at hm ⊢
    have hz : 0 ≤ z ∧ z < i + 1 := by
      simp only [List.mem_cons, List.not_mem_nil, or_false] at hm
      omega
    wtm_at "s"
    refine k_append hD6 (by simp; omega) ?_
    refine ⟨us ++ [z], _, _, _, rfl, L6.upd nD', by omega, same_hid_mut (S4.trans (S5.trans (hid_mono s6))) fr, by rw [upd_same, List.map_append]; rfl, by simp [hl], tree_more hok hl hz.1 hz.2⟩
  · rintro σ' H4 ⟨us, t', k4, k5, rfl, L4, ht4, S4, hD, hl, hok⟩
    wtm_at "s"
    exact q D us t' H4 nD0 nD' L4 (by omega) S4 (by rw [hid_ne nD']; exact hD) ⟨by omega, by omega, hok⟩
abbrev sp_law_tree (K : PySem.W.Frag) : Sp := fun vs H Q E => ∃ v0, vs = [v0] ∧ pr_law_tree K v0 H Q E
theorem ok_law_tree (T : Txt K mg A) : FnOk P w K mg base CX0 2 A.a_law_tree A.d_law_tree ["_law_purse_here"] (sp_law_tree K) := by
  refine T.F_law_tree.ok sc_law_tree (fun vs H Q E h => by obtain ⟨v0, rfl, _⟩ := h; rfl) (fun cdv A0 outer s H vs Q E hr h => ?_)
  obtain ⟨v0, rfl, h⟩ := h
  exact ⟨t_law_tree K, (pss_cons (ps_set (i := 1) sc_law_tree.nd rfl (Or.inl rfl) (pe_op op_add pe_int (pe_call (ok_law_draw T) (hr.mono (by decide)) (by rfl) T.g_law_draw T.F_law_draw.kp T.b_law_draw .nil pass0 (pa_cons (pv 0) (pa_cons (pe_ix ix_list (pe_lst (pa_cons pe_int (pa_cons pe_int (pa_cons pe_int (pa_cons pe_int pa_nil))))) (pe_call (ok_law_draw T) (hr.mono (by decide)) (by rfl) T.g_law_draw T.F_law_draw.kp T.b_law_draw .nil pass0 (pa_cons (pv 0) (pa_cons pe_int pa_nil))) (fun _ _ => rfl)) pa_nil)))))
      (pss_cons (ps_set (i := 2) sc_law_tree.nd rfl (Or.inl rfl) (pe_call (ok_law_draw T) (hr.mono (by decide)) (by rfl) T.g_law_draw T.F_law_draw.kp T.b_law_draw .nil pass0 (pa_cons (pv 0) (pa_cons pe_int pa_nil))))
      (pss_cons (ps_set (i := 3) sc_law_tree.nd rfl (Or.inl rfl) (pe_lst pa_nil))
      (pss_cons (ps_for PassesOwn.never rfl (pi_range1 (by rfl) T.z_range (pa_cons (pv 1) pa_nil)) (pg_name (i := 4) sc_law_tree.nd rfl (Or.inl rfl))
      (pss_cons (ps_set (i := 5) sc_law_tree.nd rfl (Or.inl rfl) (pe_call (ok_law_draw T) (hr.mono (by decide)) (by rfl) T.g_law_draw T.F_law_draw.kp T.b_law_draw .nil pass0 (pa_cons (pv 0) (pa_cons (pe_op op_add (pv 4) pe_int) pa_nil))))
      (pss_one (ps_expr (pe_bm PySem.F.plainAttrs_list PySem.F.slot_list_append PySem.F.type_list_append mt_append (pv 3) (pa_cons (pe_ix ix_list (pe_lst (pa_cons (pv 5) (pa_cons (pv 4) (pa_cons (pe_op op_mod (pv 5) pe_int) (pa_cons (pe_callB (q_max2 (by rfl)) (by rfl) T.z_max (by decide +kernel) (pa_cons pe_int (pa_cons (pe_op op_sub (pv 4) (pe_op op_mod (pv 5) pe_int)) pa_nil))) pa_nil))))) (pv 2) (fun _ _ => rfl)) pa_nil))))))
      (pss_one (ps_ret (pv 3))))))), pure_law_tree h⟩
def pr_law_ways (K : PySem.W.Frag) (v0 v1 v2 : V) (H : Hp) (Q : VK) (_ : XK) : Prop := ∃ (pu ce : Addr) (n : Nat) (t m c : Int), v0 = .ref pu ∧ v1 = .int m ∧ v2 = .int c ∧ Pu H pu ce n t ∧ t < 800000 ∧ 2 ≤ m ∧ m ≤ 1000 ∧ 0 ≤ c ∧ c ≤ 1000 ∧
  ∀ D ys (ws : List (Int × Int)) t' H', H D = none → D ∉ [pu, ce] → Pu H' pu ce n t' → t' ≤ t + 2 * c + 1 → Same (hid [pu, ce] H) (hid [pu, ce] H') → H' D = some (.lst ys) → DpAll K (hid [pu, ce, D] H') ys (ws.map dPair) → (ws.length : Int) ≤ c → (∀ w ∈ ws, w.1 ≠ w.2 ∧ 0 ≤ w.1 ∧ 0 ≤ w.2 ∧ w.1 < m ∧ w.2 < m) → Q (.ref D) H'
def t_law_ways (K : PySem.W.Frag) : TS :=
  (tSeq (tAsg (tLst tNil) (gName 3))
    (tSeq (tFor (iRng1 (tCons (tCall (sp_law_draw K) [] E0 (tCons (tVar 0) (tCons (tOp xAdd (tVar 2) (tC (.int 1))) tNil))) tNil)) (gName 4)
      (tSeq (tAsg (tCall (sp_law_draw K) [] E0 (tCons (tVar 0) (tCons (tVar 1) tNil))) (gName 5))
    (tDrop (tBM K "list" rAppend (tVar 3) (tCons (tTup (tCons (tVar 5) (tCons (tOp xMod (tOp xAdd (tOp xAdd (tVar 5) (tC (.int 1))) (tCall (sp_law_draw K) [] E0 (tCons (tVar 0) (tCons (tOp xSub (tVar 1) (tC (.int 1))) tNil)))) (tVar 1)) tNil))) tNil)))))
    (tRet (tVar 3))))
theorem not_in3 {p a b c : Addr} (h1 : p ∉ [a, b]) (h2 : p ≠ c) : p ∉ [a, b, c] := fun z => by
  rcases List.mem_cons.mp z with z | z
  · exact h1 (by rw [z]; simp)
  · rcases List.mem_cons.mp z with z | z
    · exact h1 (by rw [z]; simp)
    · exact h2 (by simpa using z)
theorem turn_on {m x y : Int} (hm : 2 ≤ m) (x0 : 0 ≤ x) (x1 : x < m) (y0 : 0 ≤ y) (y1 : y < m - 1) : x ≠ (x + 1 + y) % m ∧ 0 ≤ (x + 1 + y) % m ∧ (x + 1 + y) % m < m := by
  refine ⟨?_, Int.emod_nonneg _ (by omega), Int.emod_lt_of_pos _ (by omega)⟩
  by_cases c : x + 1 + y < m
  · rw [Int.emod_eq_of_lt (by omega) c]; omega
  · rw [← Int.sub_emod_right, Int.emod_eq_of_lt (by omega) (by omega)]; omega
theorem pure_law_ways {v0 v1 v2 : V} {H : Hp} {Q : VK} {E : XK} (h : pr_law_ways K v0 v1 v2 H Q E) : t_law_ways K ⟨fun _ H' => Q .non H', Q, fun _ _ => False, fun _ _ => False⟩ [some v0, some v1, some v2, none, none, none] H := by
  obtain ⟨pu, ce, n, t, m, c, rfl, rfl, rfl, L, ht, m0, m1, c0, c1, q⟩ := h
  unfold t_law_ways
  wtm_at "s"
  refine kL (by simp) (fun D H1 nD s1 e1 => ?_)
  have nD' := L.fresh nD
  have fr : hid [pu, ce] H D = none := by rw [hid_ne nD']; exact nD
  wtm_at "s"
  refine ⟨_, _, rfl, pu, ce, n, t, _, rfl, rfl, L.same s1, by omega, by omega, by omega, fun d H2 d0 d1 L2 S2 => ?_⟩
  have e2 := keeps S2 e1 nD'
  have S02 : Same (hid [pu, ce] H) (hid [pu, ce] H2) := (hid_mono s1).trans S2
  wtm_at "s"
  refine forR (fun i σ' H' => ∃ ys ws t' k4 k5, σ' = [some (.ref pu), some (.int m), some (.int c), some (.ref D), k4, k5] ∧ Pu H' pu ce n t' ∧ t' ≤ t + 1 + 2 * i ∧ Same (hid [pu, ce] H) (hid [pu, ce] H') ∧ H' D = some (.lst ys) ∧ DpAll K (hid [pu, ce, D] H') ys (List.map dPair ws) ∧ ws.length = i ∧ ∀ w ∈ ws, w.1 ≠ w.2 ∧ 0 ≤ w.1 ∧ 0 ≤ w.2 ∧ w.1 < m ∧ w.2 < m)
    ⟨[], [], _, _, _, rfl, L2, by omega, S02, e2, .nil, rfl, fun _ z => by cases z⟩ ?_ ?_
  · rintro i σ' H3 hi ⟨ys, ws, t', k4, k5, rfl, L3, ht3, S3, hD, hys, hl, hok⟩
    have ly := dpa_len hys
    rw [List.length_map] at ly
    wtm_at "s"
    refine ⟨_, _, rfl, pu, ce, n, t', m, rfl, rfl, L3, by omega, by omega, by omega, fun x H4 x0 x1 L4 S4 => ?_⟩
    have hD4 := keeps S4 hD nD'
    wtm_at "s"
    refine k_tyL (sl hD4) ?_
    wtm_at "s"
    refine ⟨_, _, rfl, pu, ce, n, _, m - 1, rfl, rfl, L4, by omega, by omega, by omega, fun y H5 y0 y1 L5 S5 => ?_⟩
    have hD5 := keeps S5 hD4 nD'
    obtain ⟨g1, g2, g3⟩ := turn_on m0 x0 x1 y0 y1
    wtm_at "s"
    generalize (x + 1 + y) % m = z at g1 g2 g3 ⊢
    refine kT (by simp) (fun p H6 np s6 e6 => ?_)
    have hD6 := s6 _ _ hD5
    have pd : p ≠ D := fun e => by rw [e, hD5] at np; cases np
    have np' := L5.fresh np
    have S36 : Same (hid [pu, ce] H3) (hid [pu, ce] H6) := S4.trans (S5.trans (hid_mono s6))
    wtm_at "s"
    refine k_append hD6 (by omega) ?_
    refine ⟨ys ++ [.ref p], ws ++ [(x, z)], _, _, _, rfl, (L5.same s6).upd nD', by omega, same_hid_mut (S3.trans S36) fr, upd_same, ?_, by simp [hl], fun w hw => ?_⟩
    · rw [hid_upd (by simp), List.map_append]
      refine dpa_app (dpa_same (hid_more S36 (by intro a ha; simp only [List.mem_cons, List.not_mem_nil, or_false] at ha ⊢; rcases ha with h | h <;> simp [h])) hys) (.cons (dp_of_pair (stp ?_)) .nil)
      rw [hid_ne (not_in3 np' pd)]; exact e6
    · rcases List.mem_append.mp hw with h | h
      · exact hok w h
      · have e : w = (x, z) := by simpa using h
        rw [e]; exact ⟨g1, x0, g2, x1, g3⟩
  · rintro σ' H3 ⟨ys, ws, t', k4, k5, rfl, L3, ht3, S3, hD, hys, hl, hok⟩
    wtm_at "s"
    exact q D ys ws t' H3 nD nD' L3 (by omega) S3 hD hys (by omega) hok
abbrev sp_law_ways (K : PySem.W.Frag) : Sp := fun vs H Q E => ∃ v0 v1 v2, vs = [v0, v1, v2] ∧ pr_law_ways K v0 v1 v2 H Q E
theorem ok_law_ways (T : Txt K mg A) : FnOk P w K mg base CX0 2 A.a_law_ways A.d_law_ways ["_law_purse_here", "_law_places", "_law_most"] (sp_law_ways K) := by
  refine T.F_law_ways.ok sc_law_ways (fun vs H Q E h => by obtain ⟨v0, v1, v2, rfl, _⟩ := h; rfl) (fun cdv A0 outer s H vs Q E hr h => ?_)
  obtain ⟨v0, v1, v2, rfl, h⟩ := h
  exact ⟨t_law_ways K, (pss_cons (ps_set (i := 3) sc_law_ways.nd rfl (Or.inl rfl) (pe_lst pa_nil))
      (pss_cons (ps_for PassesOwn.never rfl (pi_range1 (by rfl) T.z_range (pa_cons (pe_call (ok_law_draw T) (hr.mono (by decide)) (by rfl) T.g_law_draw T.F_law_draw.kp T.b_law_draw .nil pass0 (pa_cons (pv 0) (pa_cons (pe_op op_add (pv 2) pe_int) pa_nil))) pa_nil)) (pg_name (i := 4) sc_law_ways.nd rfl (Or.inl rfl))
      (pss_cons (ps_set (i := 5) sc_law_ways.nd rfl (Or.inl rfl) (pe_call (ok_law_draw T) (hr.mono (by decide)) (by rfl) T.g_law_draw T.F_law_draw.kp T.b_law_draw .nil pass0 (pa_cons (pv 0) (pa_cons (pv 1) pa_nil))))
      (pss_one (ps_expr (pe_bm PySem.F.plainAttrs_list PySem.F.slot_list_append PySem.F.type_list_append mt_append (pv 3) (pa_cons (pe_tup (pa_cons (pv 5) (pa_cons (pe_op op_mod (pe_op op_add (pe_op op_add (pv 5) pe_int) (pe_call (ok_law_draw T) (hr.mono (by decide)) (by rfl) T.g_law_draw T.F_law_draw.kp T.b_law_draw .nil pass0 (pa_cons (pv 0) (pa_cons (pe_op op_sub (pv 1) pe_int) pa_nil)))) (pv 1)) pa_nil))) pa_nil))))))
      (pss_one (ps_ret (pv 3))))), pure_law_ways h⟩


def noNets41 (ps : List Int) (at' far : Int) : List ANet := ([at' + 1, at' + far, -1, -far].map fun x => ⟨Str.ofString "tree", .inr (ps.take at'.toNat ++ [x] ++ ps.drop (at' + 1).toNat)⟩) ++ [⟨Str.ofString "tree", .inr []⟩, ⟨Str.ofString "tree", .inr (List.replicate 60 0)⟩, ⟨Str.ofString "tree", .inl far⟩, ⟨Str.ofString "trees", .inr ps⟩, ⟨Str.ofString "", .inr ps⟩, ⟨Str.ofString "line", .inr ps⟩, ⟨Str.ofString "ring", .inr ps⟩, ⟨Str.ofString "line", .inl 1⟩, ⟨Str.ofString "line", .inl 61⟩, ⟨Str.ofString "ring", .inl 2⟩, ⟨Str.ofString "ring", .inl 61⟩, ⟨Str.ofString "line", .inl (-far)⟩, ⟨Str.ofString "ring", .inl (60 + far)⟩]
theorem bent_tree {ps : List Int} {at' x : Int} (a0 : 0 ≤ at') (a1 : at' < ps.length) (h : x < 0 ∨ at' < x) : ¬ TreeOk (ps.take at'.toNat ++ [x] ++ ps.drop (at' + 1).toNat) := fun T => by
  have l1 : (ps.take at'.toNat).length = at'.toNat := by rw [List.length_take]; omega
  have g : (ps.take at'.toNat ++ [x] ++ ps.drop (at' + 1).toNat).getD at'.toNat 0 = x := by
    rw [List.getD_eq_getElem?_getD, List.append_assoc, List.getElem?_append_right (by omega), l1, Nat.sub_self]; rfl
  have := T.2.2 at'.toNat (by simp only [List.length_append, List.length_cons, List.length_nil]; omega)
  rw [g] at this
  omega
theorem noNets41_no {ps : List Int} {at' far : Int} (hp : ps.length ≤ 60) (a0 : 0 ≤ at') (a1 : at' < ps.length) (f1 : 1 ≤ far) : ∀ M ∈ noNets41 ps at' far, ¬ M.ok ∧ M.lens ∧ PyData.strOk M.kd = true := by
  intro M hM
  rcases List.mem_append.mp hM with hM | hM
  · obtain ⟨x, hx, rfl⟩ := List.mem_map.mp hM
    refine ⟨fun o => bent_tree a0 a1 ?_ (aok_t.mp o), lens_r (by simp only [List.length_append, List.length_take, List.length_drop, List.length_cons, List.length_nil]; omega), by show PyData.strOk (Str.ofString _) = true; decide +kernel⟩
    simp only [List.mem_cons, List.not_mem_nil, or_false] at hx
    omega
  · simp only [List.mem_cons, List.not_mem_nil, or_false] at hM
    rcases hM with rfl | rfl | rfl | rfl | rfl | rfl | rfl | rfl | rfl | rfl | rfl | rfl | rfl <;> refine ⟨?_, ?_, (by show PyData.strOk (Str.ofString _) = true; decide +kernel)⟩
    · exact fun o => by have := (aok_t.mp o).1; simp at this
    · exact lens_r (by simp)
    · exact fun o => by have := (aok_t.mp o).2.1; simp at this
    · exact lens_r (by simp)
    · exact aok_tl
    · exact lens_l
    · exact aok_o (sne (by decide +kernel)) (sne (by decide +kernel)) (sne (by decide +kernel))
    · exact lens_r (by omega)
    · exact aok_o (sne (by decide +kernel)) (sne (by decide +kernel)) (sne (by decide +kernel))
    · exact lens_r (by omega)
    · exact aok_lr
    · exact lens_r (by omega)
    · exact aok_rr
    · exact lens_r (by omega)
    · exact fun o => by have := aok_l.mp o; omega
    · exact lens_l
    · exact fun o => by have := aok_l.mp o; omega
    · exact lens_l
    · exact fun o => by have := aok_r.mp o; omega
    · exact lens_l
    · exact fun o => by have := aok_r.mp o; omega
    · exact lens_l
    · exact fun o => by have := aok_l.mp o; omega
    · exact lens_l
    · exact fun o => by have := aok_r.mp o; omega
    · exact lens_l
def pr_law_no_net (K : PySem.W.Frag) (v0 v1 : V) (H : Hp) (Q : VK) (_ : XK) : Prop := ∃ (pu ce : Addr) (n : Nat) (t : Int) (ps : List Int), v0 = .ref pu ∧ Pu H pu ce n t ∧ t < 800000 ∧ Dp K (hid [pu, ce] H) v1 (dInts ps) ∧ 1 ≤ ps.length ∧ ps.length ≤ 60 ∧
  ∀ v (M : ANet) H', Pu H' pu ce n (t + 3) → Same (hid [pu, ce] H) (hid [pu, ce] H') → Dp K (hid [pu, ce] H') v M.d → M.lens → ¬ M.ok → PyData.strOk M.kd = true → Q v H'
def t_law_no_net (K : PySem.W.Frag) : TS :=
  (tSeq (tAsg (tCall (sp_law_draw K) [] E0 (tCons (tVar 0) (tCons (tCB (rLenX K) (tCons (tVar 1) tNil)) tNil))) (gName 2))
    (tSeq (tAsg (tOp xAdd (tC (.int 1)) (tCall (sp_law_draw K) [] E0 (tCons (tVar 0) (tCons (tOp xPow (tC (.int 10)) (tC (.int 29))) tNil)))) (gName 3))
    (tSeq (tAsg (tLst (tCons (tOp xAdd (tVar 2) (tC (.int 1))) (tCons (tOp xAdd (tVar 2) (tVar 3)) (tCons (tUn xNeg (tC (.int 1))) (tCons (tUn xNeg (tVar 3)) tNil))))) (gName 4))
    (tSeq (tAsg (tLc (iList K (tVar 4)) (gName 6) tYes (tTup (tCons (tC (.str (Str.ofString "tree"))) (tCons (tOp rCat (tOp rCat (tSl (rSlL K) (tVar 1) tNoPart (tPart (tVar 2))) (tLst (tCons (tVar 6) tNil))) (tSl (rSlL K) (tVar 1) (tPart (tOp xAdd (tVar 2) (tC (.int 1)))) tNoPart)) tNil))) [6]) (gName 5))
    (tSeq (tAsg (tOp rCat (tVar 5) (tLst (tCons (tTup (tCons (tC (.str (Str.ofString "tree"))) (tCons (tLst tNil) tNil))) (tCons (tTup (tCons (tC (.str (Str.ofString "tree"))) (tCons (tOp rRep (tLst (tCons (tC (.int 0)) tNil)) (tC (.int 60))) tNil))) (tCons (tTup (tCons (tC (.str (Str.ofString "tree"))) (tCons (tVar 3) tNil))) (tCons (tTup (tCons (tC (.str (Str.ofString "trees"))) (tCons (tVar 1) tNil))) (tCons (tTup (tCons (tC (.str (Str.ofString ""))) (tCons (tVar 1) tNil))) tNil))))))) (gName 5))
    (tSeq (tAsg (tOp rCat (tVar 5) (tLst (tCons (tTup (tCons (tC (.str (Str.ofString "line"))) (tCons (tVar 1) tNil))) (tCons (tTup (tCons (tC (.str (Str.ofString "ring"))) (tCons (tVar 1) tNil))) (tCons (tTup (tCons (tC (.str (Str.ofString "line"))) (tCons (tC (.int 1)) tNil))) (tCons (tTup (tCons (tC (.str (Str.ofString "line"))) (tCons (tC (.int 61)) tNil))) (tCons (tTup (tCons (tC (.str (Str.ofString "ring"))) (tCons (tC (.int 2)) tNil))) (tCons (tTup (tCons (tC (.str (Str.ofString "ring"))) (tCons (tC (.int 61)) tNil))) tNil)))))))) (gName 5))
    (tSeq (tAsg (tOp rCat (tVar 5) (tLst (tCons (tTup (tCons (tC (.str (Str.ofString "line"))) (tCons (tUn xNeg (tVar 3)) tNil))) (tCons (tTup (tCons (tC (.str (Str.ofString "ring"))) (tCons (tOp xAdd (tC (.int 60)) (tVar 3)) tNil))) tNil)))) (gName 5))
    (tRet (tOp (rIxL K) (tVar 5) (tCall (sp_law_draw K) [] E0 (tCons (tVar 0) (tCons (tCB (rLenX K) (tCons (tVar 5) tNil)) tNil))))))))))))
theorem far29 : 0 < (10 : Int) ^ (29 : Int).toNat ∧ (10 : Int) ^ (29 : Int).toNat < 2 ^ 200 := by decide +kernel
theorem rep0 (n : Nat) : (List.replicate n [V.int 0]).flatten = List.map V.int (List.replicate n 0) := by
  induction n with
  | zero => rfl
  | succ n ih => rw [List.replicate_succ, List.flatten_cons, ih]; rfl
theorem pure_law_no_net {v0 v1 : V} {H : Hp} {Q : VK} {E : XK} (h : pr_law_no_net K v0 v1 H Q E) : t_law_no_net K ⟨fun _ H' => Q .non H', Q, fun _ _ => False, fun _ _ => False⟩ [some v0, some v1, none, none, none, none, none] H := by
  obtain ⟨pu, ce, n, t, ps, rfl, L, ht, d1, lp1, lp, q⟩ := h
  obtain ⟨pa, rfl, hpa⟩ := dp_ints d1
  have pc : ∀ {H' : Hp} {t : Int}, Pu H' pu ce n t → ∀ x ∈ [pu, ce], H' x ≠ none := fun {H' t} L x hx e => by
    simp only [List.mem_cons, List.not_mem_nil, or_false] at hx
    rcases hx with rfl | rfl
    · rw [L.hp] at e; cases e
    · obtain ⟨cs, _, h⟩ := L.hc
      rw [h] at e; cases e
  unfold t_law_no_net
  wtm_at "s"
  refine ⟨_, _, rfl, pu, ce, n, t, (ps.length : Nat), rfl, rfl, L, by omega, by omega, by omega, fun at' G0 a0 a1 L0 S0 => ?_⟩
  wtm_at "s"
  refine ⟨_, _, rfl, pu, ce, n, _, _, rfl, rfl, L0, by omega, far29.1, far29.2, fun f0 G1 b0 b1 L1 S1 => ?_⟩
  clear b1
  wtm_at "s"
  generalize hfar : 1 + f0 = far
  have f1 : 1 ≤ far := by omega
  have S01 := S0.trans S1
  have d1' := dp_same S01 d1
  have hpa1 := S01.seq hpa
  clear S0 S1
  refine kL (by simp) (fun bl H1 nbl s1 ebl => ?_)
  have L2 := L1.same s1
  have hpaH := (hid_mono (S := [pu, ce]) s1).seq hpa1
  wtm_at "s"
  refine lc_dp [pu, ce] (pc L2) (sl ebl) [at' + 1, at' + far, -1, -far] rfl (by simp) (fun x => .tuple [.str (Str.ofString "tree"), dInts (ps.take at'.toNat ++ [x] ++ ps.drop (at' + 1).toNat)]) ?_ (fun D0 ys HA nD0 sA eD0 dys => ?_) (fun x σ' H q q' h hh => h _ _ hh)
  · intro i x p H' hx hp' sm R g
    have ex : x = .int p := by
      have e : ([V.int (at' + 1), .int (at' + far), .int (-1), .int (-far)] : List V) = [at' + 1, at' + far, -1, -far].map V.int := rfl
      rw [e, List.getElem?_map, hp'] at hx
      exact (Option.some.inj hx).symm
    subst ex
    have hp1 : SqL K H' pa (ps.map V.int) := sm.seq ((hid_same _ _).seq hpaH)
    wtm_at "s"
    refine k_slL hp1 (fun q1 I1 nq1 u1 w1 => ?_)
    rw [show at' = ((at'.toNat : Nat) : Int) by omega, cut_to] at w1
    wtm_at "s"
    refine kL (by simp) (fun q2 I2 nq2 u2 w2 => ?_)
    wtm_at "s"
    refine k_catN (u2 _ _ w1) w2 (by simp; omega) (fun q3 I3 nq3 u3 w3 => ?_)
    wtm_at "s"
    refine k_slL ((u1.trans (u2.trans u3)).seq hp1) (fun q4 I4 nq4 u4 w4 => ?_)
    rw [show at' + 1 = (((at' + 1).toNat : Nat) : Int) by omega, cut_from] at w4
    wtm_at "s"
    refine k_catN (u4 _ _ w3) w4 (by simp; omega) (fun q5 I5 nq5 u5 w5 => ?_)
    wtm_at "s"
    refine kT (by simp) (fun q6 I6 nq6 u6 w6 => ?_)
    refine g _ I6 (u1.trans (u2.trans (u3.trans (u4.trans (u5.trans u6))))) (fun S hS => ?_)
    have n5 := (u1.trans (u2.trans (u3.trans u4))).free nq5
    have n6 := (u1.trans (u2.trans (u3.trans (u4.trans u5)))).free nq6
    refine .tup (stp (by rw [hid_ne (fun z => hS _ z n6)]; exact w6)) (.cons (.str _) (.cons (dp_of_ints (sl ?_)) .nil))
    rw [hid_ne (fun z => hS _ z n5), u6 _ _ w5, ← List.map_take, ← List.map_drop, List.map_append, List.map_append]
    rfl
  have LA := L2.same sA
  have eD := L2.at nD0 eD0
  have dys0 : DpAll K (hid [pu, ce] HA) ys ([at' + 1, at' + far, -1, -far].map fun x => PyData.tuple [.str (Str.ofString "tree"), dInts (ps.take at'.toNat ++ [x] ++ ps.drop (at' + 1).toNat)]) := dpa_same (hid_sub fun x hx => List.mem_cons_of_mem _ hx) dys
  have ly : ys.length = 4 := by rw [dpa_len dys0]; rfl
  have dPA : Dp K (hid [pu, ce] HA) (.ref pa) (dInts ps) := dp_same ((hid_mono s1).trans (hid_mono sA)) d1'
  have S0A : Same (hid [pu, ce] H) (hid [pu, ce] HA) := S01.trans ((hid_mono s1).trans (hid_mono sA))
  clear dys eD0 sA s1 ebl nbl S01 d1' hpa1 hpaH nD0 L2 L1 L0 L d1 hpa
  wtm_at "s"
  refine kLq LA (by simp) (fun l1 G1 nl1 s1 el1 => ?_)
  have L11 := LA.same s1
  wtm_at "s"
  refine kTq L11 (by simp) (fun t1 G2 nt1 s2 et1 => ?_)
  have L12 := L11.same s2
  wtm_at "s"
  refine kLq L12 (by simp) (fun m2 G3 nm2 s3 em2 => ?_)
  have L13 := L12.same s3
  wtm_at "s"
  refine k_repN (by wtm_at "at") (by decide) (by decide) (by simp) (fun l2 G4 nl2 s4 el2 => ?_)
  rw [show (60 : Int).toNat = 60 from rfl, rep0] at el2
  replace el2 := L13.at nl2 el2
  have L14 := L13.same s4
  wtm_at "s"
  refine kTq L14 (by simp) (fun t2 G5 nt2 s5 et2 => ?_)
  have L15 := L14.same s5
  wtm_at "s"
  refine kTq L15 (by simp) (fun t3 G6 nt3 s6 et3 => ?_)
  have L16 := L15.same s6
  wtm_at "s"
  refine kTq L16 (by simp) (fun t4 G7 nt4 s7 et4 => ?_)
  have L17 := L16.same s7
  wtm_at "s"
  refine kTq L17 (by simp) (fun t5 G8 nt5 s8 et5 => ?_)
  have L18 := L17.same s8
  wtm_at "s"
  refine kLq L18 (by simp) (fun g1 G9 ng1 s9 eg1 => ?_)
  have L19 := L18.same s9
  wtm_at "s"
  refine k_catN (by wtm_at "at") (by wtm_at "at") (by simp; try omega) (fun c1 G10 nc1 s10 ec1 => ?_)
  replace ec1 := L19.at nc1 ec1
  have L20 := L19.same s10
  wtm_at "s"
  refine kTq L20 (by simp) (fun t6 G11 nt6 s11 et6 => ?_)
  have L21 := L20.same s11
  wtm_at "s"
  refine kTq L21 (by simp) (fun t7 G12 nt7 s12 et7 => ?_)
  have L22 := L21.same s12
  wtm_at "s"
  refine kTq L22 (by simp) (fun t8 G13 nt8 s13 et8 => ?_)
  have L23 := L22.same s13
  wtm_at "s"
  refine kTq L23 (by simp) (fun t9 G14 nt9 s14 et9 => ?_)
  have L24 := L23.same s14
  wtm_at "s"
  refine kTq L24 (by simp) (fun t10 G15 nt10 s15 et10 => ?_)
  have L25 := L24.same s15
  wtm_at "s"
  refine kTq L25 (by simp) (fun t11 G16 nt11 s16 et11 => ?_)
  have L26 := L25.same s16
  wtm_at "s"
  refine kLq L26 (by simp) (fun g2 G17 ng2 s17 eg2 => ?_)
  have L27 := L26.same s17
  wtm_at "s"
  refine k_catN (by wtm_at "at") (by wtm_at "at") (by simp; try omega) (fun c2 G18 nc2 s18 ec2 => ?_)
  replace ec2 := L27.at nc2 ec2
  have L28 := L27.same s18
  wtm_at "s"
  refine kTq L28 (by simp) (fun t12 G19 nt12 s19 et12 => ?_)
  have L29 := L28.same s19
  wtm_at "s"
  refine kTq L29 (by simp) (fun t13 G20 nt13 s20 et13 => ?_)
  have L30 := L29.same s20
  wtm_at "s"
  refine kLq L30 (by simp) (fun g3 G21 ng3 s21 eg3 => ?_)
  have L31 := L30.same s21
  wtm_at "s"
  refine k_catN (by wtm_at "at") (by wtm_at "at") (by simp; try omega) (fun c3 G22 nc3 s22 ec3 => ?_)
  replace ec3 := L31.at nc3 ec3
  have L32 := L31.same s22
  wtm_at "s"
  rw [show (((ys ++ [V.ref t1, V.ref t2, V.ref t3, V.ref t4, V.ref t5] ++ [V.ref t6, V.ref t7, V.ref t8, V.ref t9, V.ref t10, V.ref t11] ++ [V.ref t12, V.ref t13]).length : Nat) : Int) = 17 by simp [ly]]
  refine ⟨_, _, rfl, pu, ce, n, _, 17, rfl, rfl, L32, by omega, by decide, by decide, fun r GZ r0 r1 LZ SZ => ?_⟩
  have tl : DpAll K (hid [pu, ce] GZ) [V.ref t1, V.ref t2, V.ref t3, V.ref t4, V.ref t5, V.ref t6, V.ref t7, V.ref t8, V.ref t9, V.ref t10, V.ref t11, V.ref t12, V.ref t13] (([⟨Str.ofString "tree", .inr []⟩, ⟨Str.ofString "tree", .inr (List.replicate 60 0)⟩, ⟨Str.ofString "tree", .inl far⟩, ⟨Str.ofString "trees", .inr ps⟩, ⟨Str.ofString "", .inr ps⟩, ⟨Str.ofString "line", .inr ps⟩, ⟨Str.ofString "ring", .inr ps⟩, ⟨Str.ofString "line", .inl 1⟩, ⟨Str.ofString "line", .inl 61⟩, ⟨Str.ofString "ring", .inl 2⟩, ⟨Str.ofString "ring", .inl 61⟩, ⟨Str.ofString "line", .inl (-far)⟩, ⟨Str.ofString "ring", .inl (60 + far)⟩] : List ANet).map ANet.d) := by
    refine .cons (.tup (stp (at_same et1 (by wtm_at "sm"))) (.cons (.str _) (.cons (dpI_at (ns := []) el1 (by wtm_at "sm")) .nil))) (
      .cons (.tup (stp (at_same et2 (by wtm_at "sm"))) (.cons (.str _) (.cons (dpI_at (ns := List.replicate 60 0) el2 (by wtm_at "sm")) .nil))) (
      .cons (.tup (stp (at_same et3 (by wtm_at "sm"))) (.cons (.str _) (.cons (.int _) .nil))) (
      .cons (.tup (stp (at_same et4 (by wtm_at "sm"))) (.cons (.str _) (.cons (dp_same (by wtm_at "sm") dPA) .nil))) (
      .cons (.tup (stp (at_same et5 (by wtm_at "sm"))) (.cons (.str _) (.cons (dp_same (by wtm_at "sm") dPA) .nil))) (
      .cons (.tup (stp (at_same et6 (by wtm_at "sm"))) (.cons (.str _) (.cons (dp_same (by wtm_at "sm") dPA) .nil))) (
      .cons (.tup (stp (at_same et7 (by wtm_at "sm"))) (.cons (.str _) (.cons (dp_same (by wtm_at "sm") dPA) .nil))) (
      .cons (.tup (stp (at_same et8 (by wtm_at "sm"))) (.cons (.str _) (.cons (.int _) .nil))) (
      .cons (.tup (stp (at_same et9 (by wtm_at "sm"))) (.cons (.str _) (.cons (.int _) .nil))) (
      .cons (.tup (stp (at_same et10 (by wtm_at "sm"))) (.cons (.str _) (.cons (.int _) .nil))) (
      .cons (.tup (stp (at_same et11 (by wtm_at "sm"))) (.cons (.str _) (.cons (.int _) .nil))) (
      .cons (.tup (stp (at_same et12 (by wtm_at "sm"))) (.cons (.str _) (.cons (.int _) .nil))) (
      .cons (.tup (stp (at_same et13 (by wtm_at "sm"))) (.cons (.str _) (.cons (.int _) .nil))) (
      .nil)))))))))))))
  have all : DpAll K (hid [pu, ce] GZ) (ys ++ [V.ref t1, V.ref t2, V.ref t3, V.ref t4, V.ref t5] ++ [V.ref t6, V.ref t7, V.ref t8, V.ref t9, V.ref t10, V.ref t11] ++ [V.ref t12, V.ref t13]) ((noNets41 ps at' far).map ANet.d) := by
    unfold noNets41
    rw [List.map_append, List.map_map]
    have e : (ys ++ [V.ref t1, V.ref t2, V.ref t3, V.ref t4, V.ref t5] ++ [V.ref t6, V.ref t7, V.ref t8, V.ref t9, V.ref t10, V.ref t11] ++ [V.ref t12, V.ref t13]) = ys ++ [V.ref t1, V.ref t2, V.ref t3, V.ref t4, V.ref t5, V.ref t6, V.ref t7, V.ref t8, V.ref t9, V.ref t10, V.ref t11, V.ref t12, V.ref t13] := by simp
    rw [e]
    exact dpa_app (dpa_same (by wtm_at "sm") dys0) tl
  obtain ⟨m, rfl⟩ := Int.eq_ofNat_of_zero_le r0
  have hm : m < (ys ++ [V.ref t1, V.ref t2, V.ref t3, V.ref t4, V.ref t5] ++ [V.ref t6, V.ref t7, V.ref t8, V.ref t9, V.ref t10, V.ref t11] ++ [V.ref t12, V.ref t13]).length := by simp [ly]; omega
  obtain ⟨x, hx⟩ : ∃ x, (ys ++ [V.ref t1, V.ref t2, V.ref t3, V.ref t4, V.ref t5] ++ [V.ref t6, V.ref t7, V.ref t8, V.ref t9, V.ref t10, V.ref t11] ++ [V.ref t12, V.ref t13])[m]? = some x := ⟨_, List.getElem?_eq_getElem hm⟩
  obtain ⟨d, hd1, hd2⟩ := dpa_get all hx
  rw [List.getElem?_map] at hd1
  obtain ⟨M, hM, rfl⟩ := Option.map_eq_some_iff.mp hd1
  obtain ⟨h1, h2, h3⟩ := noNets41_no lp a0 a1 f1 M (List.mem_of_getElem? hM)
  refine k_ixL (sl_at ec3 (by wtm_at "sm")) (atI_nat (v := x) hx) ?_
  refine q x M GZ (by rw [show t + 3 = t + 1 + 1 + 1 by omega]; exact LZ) (S0A.trans (by wtm_at "sm")) hd2 h2 h1 h3
abbrev sp_law_no_net (K : PySem.W.Frag) : Sp := fun vs H Q E => ∃ v0 v1, vs = [v0, v1] ∧ pr_law_no_net K v0 v1 H Q E
theorem ok_law_no_net (T : Txt K mg A) : FnOk P w K mg base CX0 2 A.a_law_no_net A.d_law_no_net ["_law_purse_here", "_law_parents"] (sp_law_no_net K) := by
  refine T.F_law_no_net.ok sc_law_no_net (fun vs H Q E h => by obtain ⟨v0, v1, rfl, _⟩ := h; rfl) (fun cdv A0 outer s H vs Q E hr h => ?_)
  obtain ⟨v0, v1, rfl, h⟩ := h
  exact ⟨t_law_no_net K, (pss_cons (ps_set (i := 2) sc_law_no_net.nd rfl (Or.inr rfl) (pe_call (ok_law_draw T) (hr.mono (by decide)) (by rfl) T.g_law_draw T.F_law_draw.kp T.b_law_draw .nil pass0 (pa_cons (pv 0) (pa_cons (pe_callB q_len (by rfl) T.z_len (by decide +kernel) (pa_cons (pv 1) pa_nil)) pa_nil))))
      (pss_cons (ps_set (i := 3) sc_law_no_net.nd rfl (Or.inl rfl) (pe_op op_add pe_int (pe_call (ok_law_draw T) (hr.mono (by decide)) (by rfl) T.g_law_draw T.F_law_draw.kp T.b_law_draw .nil pass0 (pa_cons (pv 0) (pa_cons (pe_op op_pow pe_int pe_int) pa_nil)))))
      (pss_cons (ps_set (i := 4) sc_law_no_net.nd rfl (Or.inl rfl) (pe_lst (pa_cons (pe_op op_add (pv 2) pe_int) (pa_cons (pe_op op_add (pv 2) (pv 3)) (pa_cons (pe_un un_neg pe_int) (pa_cons (pe_un un_neg (pv 3)) pa_nil))))))
      (pss_cons (ps_setLc (i := 5) (own := [("_law_one", 6)]) (by rfl) sc_law_no_net.nd rfl rfl (sw_true rfl rfl rfl (by decide +kernel)) (pi_list (pv 4)) (blkOk_by (own := [("_law_one", 6)]) (N := ["_law_purse_here", "_law_parents", "_law_at", "_law_far", "_law_bad", "_law_some", "_law_one"]) (sc := defScope s_law_no_net) (by decide +kernel)) (fun _ _ _ _ _ => (pg_name (i := 6) sc_law_no_net.nd rfl (Or.inl rfl))) (fun _ _ _ _ _ => pts_nil) (fun _ _ _ _ _ => (pe_tup (pa_cons pe_str (pa_cons (pe_op op_cat (pe_op op_cat (pe_slice sl_list (pv 1) po_none (po_some (pv 2))) (pe_lst (pa_cons (pv 6) pa_nil))) (pe_slice sl_list (pv 1) (po_some (pe_op op_add (pv 2) pe_int)) po_none)) pa_nil)))))
      (pss_cons (ps_set (i := 5) sc_law_no_net.nd rfl (Or.inl rfl) (pe_op op_cat (pv 5) (pe_lst (pa_cons (pe_tup (pa_cons pe_str (pa_cons (pe_lst pa_nil) pa_nil))) (pa_cons (pe_tup (pa_cons pe_str (pa_cons (pe_op op_rep (pe_lst (pa_cons pe_int pa_nil)) pe_int) pa_nil))) (pa_cons (pe_tup (pa_cons pe_str (pa_cons (pv 3) pa_nil))) (pa_cons (pe_tup (pa_cons pe_str (pa_cons (pv 1) pa_nil))) (pa_cons (pe_tup (pa_cons pe_str (pa_cons (pv 1) pa_nil))) pa_nil))))))))
      (pss_cons (ps_set (i := 5) sc_law_no_net.nd rfl (Or.inl rfl) (pe_op op_cat (pv 5) (pe_lst (pa_cons (pe_tup (pa_cons pe_str (pa_cons (pv 1) pa_nil))) (pa_cons (pe_tup (pa_cons pe_str (pa_cons (pv 1) pa_nil))) (pa_cons (pe_tup (pa_cons pe_str (pa_cons pe_int pa_nil))) (pa_cons (pe_tup (pa_cons pe_str (pa_cons pe_int pa_nil))) (pa_cons (pe_tup (pa_cons pe_str (pa_cons pe_int pa_nil))) (pa_cons (pe_tup (pa_cons pe_str (pa_cons pe_int pa_nil))) pa_nil)))))))))
      (pss_cons (ps_set (i := 5) sc_law_no_net.nd rfl (Or.inl rfl) (pe_op op_cat (pv 5) (pe_lst (pa_cons (pe_tup (pa_cons pe_str (pa_cons (pe_un un_neg (pv 3)) pa_nil))) (pa_cons (pe_tup (pa_cons pe_str (pa_cons (pe_op op_add pe_int (pv 3)) pa_nil))) pa_nil)))))
      (pss_one (ps_ret (pe_ix ix_list (pv 5) (pe_call (ok_law_draw T) (hr.mono (by decide)) (by rfl) T.g_law_draw T.F_law_draw.kp T.b_law_draw .nil pass0 (pa_cons (pv 0) (pa_cons (pe_callB q_len (by rfl) T.z_len (by decide +kernel) (pa_cons (pv 5) pa_nil)) pa_nil))) (fun _ _ => rfl))))))))))), pure_law_no_net h⟩


theorem dpa_ins {K : PySem.W.Frag} {H : Hp} {vs : List V} {ds : List PyData} {v : V} {d : PyData} (i : Nat) (h : DpAll K H vs ds) (hv : Dp K H v d) : DpAll K H (vs.take i ++ [v] ++ vs.drop i) (ds.take i ++ [d] ++ ds.drop i) := dpa_app (dpa_app (dpa_take i h) (.cons hv .nil)) (dpa_drop i h)
def pr_law_no_ways (K : PySem.W.Frag) (v0 v1 v2 : V) (H : Hp) (Q : VK) (_ : XK) : Prop := ∃ (pu ce : Addr) (n : Nat) (t : Int) (ps : List Int) (ws : List (Int × Int)), v0 = .ref pu ∧ v2 = .int ((ps.length : Int) + 1) ∧ Pu H pu ce n t ∧ t < 800000 ∧ ps.length ≤ 60 ∧ Dp K (hid [pu, ce] H) v1 (dPairs ws) ∧ ws.length ≤ 60 ∧
  ∀ D (ws' : List (Int × Int)) t' H', H D = none → D ∉ [pu, ce] → Pu H' pu ce n t' → t' ≤ t + 20 → Same (hid [pu, ce] H) (hid [pu, ce] H') → Dp K (hid [pu, ce] H') (.ref D) (dPairs ws') → ws'.length ≤ 40 → (∃ w ∈ ws', ¬ isWay (.tree ps) w.1 w.2) → Q (.ref D) H'
def t_law_no_ways (K : PySem.W.Frag) : TS :=
  (tSeq (tAsg (tCB (rListOf K) (tCons (tSl (rSlL K) (tVar 1) tNoPart (tPart (tC (.int 38)))) tNil)) (gName 3))
    (tSeq (tFor (iRng1 (tCons (tOp xAdd (tC (.int 1)) (tCall (sp_law_draw K) [] E0 (tCons (tVar 0) (tCons (tC (.int 2)) tNil)))) tNil)) (gName 4)
      (tSeq (tAsg (tCall (sp_law_draw K) [] E0 (tCons (tVar 0) (tCons (tOp xPow (tC (.int 10)) (tC (.int 29))) tNil))) (gName 5))
    (tSeq (tAsg (tCall (sp_law_draw K) [] E0 (tCons (tVar 0) (tCons (tVar 2) tNil))) (gName 6))
    (tSeq (tAsg (tLst (tCons (tTup (tCons (tVar 6) (tCons (tVar 6) tNil))) (tCons (tTup (tCons (tVar 6) (tCons (tVar 2) tNil))) (tCons (tTup (tCons (tVar 2) (tCons (tVar 6) tNil))) (tCons (tTup (tCons (tUn xNeg (tC (.int 1))) (tCons (tVar 6) tNil))) (tCons (tTup (tCons (tVar 6) (tCons (tOp xSub (tUn xNeg (tC (.int 1))) (tVar 5)) tNil))) (tCons (tTup (tCons (tOp xAdd (tVar 2) (tVar 5)) (tCons (tVar 6) tNil))) tNil))))))) (gName 7))
    (tDrop (tBM K "list" rIns (tVar 3) (tCons (tCall (sp_law_draw K) [] E0 (tCons (tVar 0) (tCons (tOp xAdd (tCB (rLenX K) (tCons (tVar 3) tNil)) (tC (.int 1))) tNil))) (tCons (tOp (rIxL K) (tVar 7) (tCall (sp_law_draw K) [] E0 (tCons (tVar 0) (tCons (tC (.int 6)) tNil)))) tNil))))))))
    (tRet (tVar 3))))
theorem pure_law_no_ways {v0 v1 v2 : V} {H : Hp} {Q : VK} {E : XK} (h : pr_law_no_ways K v0 v1 v2 H Q E) : t_law_no_ways K ⟨fun _ H' => Q .non H', Q, fun _ _ => False, fun _ _ => False⟩ [some v0, some v1, some v2, none, none, none, none, none] H := by
  obtain ⟨pu, ce, n, t, ps, ws, rfl, rfl, L, ht, hp, d1, hz, q⟩ := h
  obtain ⟨wb, wys, rfl, hwb, dws⟩ := dp_list d1
  have lws : wys.length = ws.length := by rw [dpa_len dws, List.length_map]
  unfold t_law_no_ways
  wtm_at "s"
  refine k_slL ((hid_same _ _).seq hwb) (fun l0 H1 nl0 s1 e1 => ?_)
  rw [show (38 : Int) = ((38 : Nat) : Int) from rfl, cut_to] at e1
  wtm_at "s"
  refine k_listN (sl e1) (fun D H2 nD s2 e2 => ?_)
  have s02 := s1.trans s2
  have nD0 : H D = none := s1.free nD
  have nD' := L.fresh nD0
  have fr : hid [pu, ce] H D = none := by rw [hid_ne nD']; exact nD0
  have S2 : Same (hid [pu, ce] H) (hid [pu, ce] H2) := hid_mono s02
  have d2 : DpAll K (hid [pu, ce, D] H2) (wys.take 38) ((ws.take 38).map dPair) := by
    rw [List.map_take]
    refine dpa_take _ (dpa_same ?_ dws)
    exact (show Same (hid [pu, ce] H) (hid [pu, ce, D] H2) from fun b o hb => by
      have h1 := hid_some hb
      have bD : b ≠ D := fun z => by rw [z, nD0] at h1; cases h1.2
      rw [hid_ne (not_in3 h1.1 bD)]
      exact s02 _ _ h1.2)
  wtm_at "s"
  refine ⟨_, _, rfl, pu, ce, n, t, 2, rfl, rfl, L.same s02, by omega, by omega, by omega, fun r H3 r0 r1 L3 S3 => ?_⟩
  have e3 := keeps S3 e2 nD'
  have S03 := S2.trans S3
  have d3 : DpAll K (hid [pu, ce, D] H3) (wys.take 38) ((ws.take 38).map dPair) := dpa_same (hid_more S3 (by intro a ha; simp only [List.mem_cons, List.not_mem_nil, or_false] at ha ⊢; rcases ha with h | h <;> simp [h])) d2
  clear d2 S2 s02 e2 s2 s1 e1 nl0
  wtm_at "s"
  refine forR (fun i σ' H' => ∃ (ys : List V) (ws' : List (Int × Int)) (t' : Int) (k4 k5 k6 k7 : Option V), σ' = [some (.ref pu), some (.ref wb), some (.int ((ps.length : Int) + 1)), some (.ref D), k4, k5, k6, k7] ∧ Pu H' pu ce n t' ∧ t' ≤ t + 1 + 4 * i ∧ Same (hid [pu, ce] H) (hid [pu, ce] H') ∧ H' D = some (.lst ys) ∧ DpAll K (hid [pu, ce, D] H') ys (ws'.map dPair) ∧ ws'.length ≤ 38 + i ∧ (0 < i → ∃ w ∈ ws', ¬ isWay (.tree ps) w.1 w.2))
    ⟨_, _, _, _, _, _, _, rfl, L3, by omega, S03, e3, d3, by rw [List.length_take]; omega, fun h => absurd h (by decide)⟩ ?_ ?_
  · clear d3 e3 S03 L3 S3
    rintro i σ' H4 hi ⟨ys, ws', t', k4, k5, k6, k7, rfl, L4, ht4, S4, eD, dys, ln, _⟩
    have hi2 : i < 2 := by omega
    have ly := dpa_len dys
    rw [List.length_map] at ly
    wtm_at "s"
    refine ⟨_, _, rfl, pu, ce, n, t', _, rfl, rfl, L4, by omega, by decide, by decide, fun far H5 f0 f1 L5 S5 => ?_⟩
    have eD5 := keeps S5 eD nD'
    wtm_at "s"
    refine ⟨_, _, rfl, pu, ce, n, _, (ps.length : Int) + 1, rfl, rfl, L5, by omega, by omega, by omega, fun one H6 o0 o1 L6 S6 => ?_⟩
    have eD6 := keeps S6 eD5 nD'
    wtm_at "s"
    refine kT (by simp) (fun p1 G1 n1 u1 w1 => ?_)
    wtm_at "s"
    refine kT (by simp) (fun p2 G2 n2 u2 w2 => ?_)
    wtm_at "s"
    refine kT (by simp) (fun p3 G3 n3 u3 w3 => ?_)
    wtm_at "s"
    refine kT (by simp) (fun p4 G4 n4 u4 w4 => ?_)
    wtm_at "s"
    refine kT (by simp) (fun p5 G5 n5 u5 w5 => ?_)
    wtm_at "s"
    refine kT (by simp) (fun p6 G6 n6 u6 w6 => ?_)
    wtm_at "s"
    refine kL (by simp) (fun bl H7 nbl u7 w7 => ?_)
    have v6 := u7
    have v5 := u6.trans v6
    have v4 := u5.trans v5
    have v3 := u4.trans v4
    have v2 := u3.trans v3
    have v1 := u2.trans v2
    have s67 := u1.trans v1
    have L7 := L6.same s67
    have S47 : Same (hid [pu, ce] H4) (hid [pu, ce] H7) := S5.trans (S6.trans (hid_mono s67))
    have eD7 := s67 _ _ eD6
    have nbl' := (L6.same (u1.trans (u2.trans (u3.trans (u4.trans (u5.trans u6)))))).fresh nbl
    have bds : ∀ r : Int, 0 ≤ r → r < 6 → ∃ (p : Addr) (w : Int × Int), atI [V.ref p1, .ref p2, .ref p3, .ref p4, .ref p5, .ref p6] r = some (.ref p) ∧ p ∉ [pu, ce, D] ∧ H7 p = some (.tup [.int w.1, .int w.2]) ∧ ¬ isWay (.tree ps) w.1 w.2 := by
      intro r r0 r1
      have fD : ∀ {p : Addr} {G : Hp}, Same H6 G → G p = none → p ∉ [pu, ce, D] := fun {p G} s np => not_in3 ((L6.same s).fresh np) (fun z => by rw [z, s _ _ eD6] at np; cases np)
      have hr : r = 0 ∨ r = 1 ∨ r = 2 ∨ r = 3 ∨ r = 4 ∨ r = 5 := by omega
      rcases hr with rfl | rfl | rfl | rfl | rfl | rfl
      · exact ⟨p1, (one, one), rfl, fD (Same.refl _) n1, v1 _ _ w1, fun h => h.1 rfl⟩
      · exact ⟨p2, (one, (ps.length : Int) + 1), rfl, fD u1 n2, v2 _ _ w2, fun h => by have h5 : (ps.length : Int) + 1 < (ps.length : Int) + 1 := h.2.2.2.2; omega⟩
      · exact ⟨p3, ((ps.length : Int) + 1, one), rfl, fD (u1.trans u2) n3, v3 _ _ w3, fun h => by have h5 : (ps.length : Int) + 1 < (ps.length : Int) + 1 := h.2.2.2.1; omega⟩
      · exact ⟨p4, (-1, one), rfl, fD (u1.trans (u2.trans u3)) n4, v4 _ _ w4, fun h => by have h5 : (0 : Int) ≤ -1 := h.2.1; omega⟩
      · exact ⟨p5, (one, -1 - far), rfl, fD (u1.trans (u2.trans (u3.trans u4))) n5, v5 _ _ w5, fun h => by have h5 : (0 : Int) ≤ -1 - far := h.2.2.1; omega⟩
      · exact ⟨p6, ((ps.length : Int) + 1 + far, one), rfl, fD (u1.trans (u2.trans (u3.trans (u4.trans u5)))) n6, v6 _ _ w6, fun h => by have h5 : (ps.length : Int) + 1 + far < (ps.length : Int) + 1 := h.2.2.2.1; omega⟩
    clear w1 w2 w3 w4 w5 w6 n1 n2 n3 n4 n5 n6 v1 v2 v3 v4 v5 v6 u1 u2 u3 u4 u5 u6 u7 s67 eD5 eD6 L6 L5
    wtm_at "s"
    refine k_tyL (sl eD7) ?_
    wtm_at "s"
    refine ⟨_, _, rfl, pu, ce, n, _, (ys.length : Int) + 1, rfl, rfl, L7, by omega, by omega, by omega, fun at' H8 a0 a1 L8 S8 => ?_⟩
    have eD8 := keeps S8 eD7 nD'
    have w8 := keeps S8 w7 nbl'
    wtm_at "s"
    refine ⟨_, _, rfl, pu, ce, n, _, 6, rfl, rfl, L8, by omega, by omega, by omega, fun r H9 r0 r1 L9 S9 => ?_⟩
    have eD9 := keeps S9 eD8 nD'
    have w9 := keeps S9 w8 nbl'
    obtain ⟨p, w, hat, pS, ep, bw⟩ := bds r r0 r1
    refine k_ixL (sl w9) hat ?_
    wtm_at "s"
    refine k_ins eD9 (by omega) a0 (by omega) ?_
    have S49 : Same (hid [pu, ce] H4) (hid [pu, ce] H9) := S47.trans (S8.trans S9)
    have sub : ∀ a ∈ [pu, ce], a ∈ [pu, ce, D] := by intro a ha; simp only [List.mem_cons, List.not_mem_nil, or_false] at ha ⊢; rcases ha with h | h <;> simp [h]
    have dp9 : Dp K (hid [pu, ce, D] H9) (.ref p) (dPair w) := by
      refine dp_of_pair (stp ?_)
      have a1 : hid [pu, ce, D] H7 p = some (.tup [.int w.1, .int w.2]) := by rw [hid_ne pS]; exact ep
      exact (hid_more (S8.trans S9) sub) _ _ a1
    refine ⟨_, ws'.take at'.toNat ++ [w] ++ ws'.drop at'.toNat, _, _, _, _, _, rfl, L9.upd nD', by omega, same_hid_mut (S4.trans S49) fr, upd_same, ?_, ?_, fun _ => ⟨w, by simp, bw⟩⟩
    · rw [hid_upd (by simp), List.map_append, List.map_append, List.map_take, List.map_drop]
      exact dpa_ins _ (dpa_same (hid_more S49 sub) dys) dp9
    · simp only [List.length_append, List.length_take, List.length_drop, List.length_cons, List.length_nil]
      omega
  · clear d3 e3 S03 L3 S3
    rintro σ' H4 ⟨ys, ws', t', k4, k5, k6, k7, rfl, L4, ht4, S4, eD, dys, ln, bad⟩
    wtm_at "s"
    exact q D ws' t' H4 nD0 nD' L4 (by omega) S4 (.lst (sl (by rw [hid_ne nD']; exact eD)) (dpa_same (hid_sub (by intro a ha; simp only [List.mem_cons, List.not_mem_nil, or_false] at ha ⊢; rcases ha with h | h <;> simp [h])) dys)) (by omega) (bad (by omega))
abbrev sp_law_no_ways (K : PySem.W.Frag) : Sp := fun vs H Q E => ∃ v0 v1 v2, vs = [v0, v1, v2] ∧ pr_law_no_ways K v0 v1 v2 H Q E
theorem ok_law_no_ways (T : Txt K mg A) : FnOk P w K mg base CX0 2 A.a_law_no_ways A.d_law_no_ways ["_law_purse_here", "_law_ways_here", "_law_places"] (sp_law_no_ways K) := by
  refine T.F_law_no_ways.ok sc_law_no_ways (fun vs H Q E h => by obtain ⟨v0, v1, v2, rfl, _⟩ := h; rfl) (fun cdv A0 outer s H vs Q E hr h => ?_)
  obtain ⟨v0, v1, v2, rfl, h⟩ := h
  exact ⟨t_law_no_ways K, (pss_cons (ps_set (i := 3) sc_law_no_ways.nd rfl (Or.inl rfl) (pe_callTy q_listOf (by rfl) T.z_list (by decide +kernel) (pa_cons (pe_slice sl_list (pv 1) po_none (po_some pe_int)) pa_nil)))
      (pss_cons (ps_for PassesOwn.never rfl (pi_range1 (by rfl) T.z_range (pa_cons (pe_op op_add pe_int (pe_call (ok_law_draw T) (hr.mono (by decide)) (by rfl) T.g_law_draw T.F_law_draw.kp T.b_law_draw .nil pass0 (pa_cons (pv 0) (pa_cons pe_int pa_nil)))) pa_nil)) (pg_name (i := 4) sc_law_no_ways.nd rfl (Or.inl rfl))
      (pss_cons (ps_set (i := 5) sc_law_no_ways.nd rfl (Or.inl rfl) (pe_call (ok_law_draw T) (hr.mono (by decide)) (by rfl) T.g_law_draw T.F_law_draw.kp T.b_law_draw .nil pass0 (pa_cons (pv 0) (pa_cons (pe_op op_pow pe_int pe_int) pa_nil))))
      (pss_cons (ps_set (i := 6) sc_law_no_ways.nd rfl (Or.inl rfl) (pe_call (ok_law_draw T) (hr.mono (by decide)) (by rfl) T.g_law_draw T.F_law_draw.kp T.b_law_draw .nil pass0 (pa_cons (pv 0) (pa_cons (pv 2) pa_nil))))
      (pss_cons (ps_set (i := 7) sc_law_no_ways.nd rfl (Or.inl rfl) (pe_lst (pa_cons (pe_tup (pa_cons (pv 6) (pa_cons (pv 6) pa_nil))) (pa_cons (pe_tup (pa_cons (pv 6) (pa_cons (pv 2) pa_nil))) (pa_cons (pe_tup (pa_cons (pv 2) (pa_cons (pv 6) pa_nil))) (pa_cons (pe_tup (pa_cons (pe_un un_neg pe_int) (pa_cons (pv 6) pa_nil))) (pa_cons (pe_tup (pa_cons (pv 6) (pa_cons (pe_op op_sub (pe_un un_neg pe_int) (pv 5)) pa_nil))) (pa_cons (pe_tup (pa_cons (pe_op op_add (pv 2) (pv 5)) (pa_cons (pv 6) pa_nil))) pa_nil))))))))
      (pss_one (ps_expr (pe_bm PySem.F.plainAttrs_list PySem.F.slot_list_insert PySem.F.type_list_insert mt_insert (pv 3) (pa_cons (pe_call (ok_law_draw T) (hr.mono (by decide)) (by rfl) T.g_law_draw T.F_law_draw.kp T.b_law_draw .nil pass0 (pa_cons (pv 0) (pa_cons (pe_op op_add (pe_callB q_len (by rfl) T.z_len (by decide +kernel) (pa_cons (pv 3) pa_nil)) pe_int) pa_nil))) (pa_cons (pe_ix ix_list (pv 7) (pe_call (ok_law_draw T) (hr.mono (by decide)) (by rfl) T.g_law_draw T.F_law_draw.kp T.b_law_draw .nil pass0 (pa_cons (pv 0) (pa_cons pe_int pa_nil))) (fun _ _ => rfl)) pa_nil)))))))))
      (pss_one (ps_ret (pv 3))))), pure_law_no_ways h⟩


def pr_law_first_none (K : PySem.W.Frag) (v0 v1 : V) (H : Hp) (Q : VK) (_ : XK) : Prop := ∃ (ps : List Int) (ws : List (Int × Int)), Dp K H v0 (dPairs ws) ∧ v1 = .int ((ps.length : Int) + 1) ∧ ws.length ≤ 60 ∧ ps.length ≤ 60 ∧ (∃ w ∈ ws, ¬ isWay (.tree ps) w.1 w.2) ∧ ∀ (i : Nat) H', FirstBad (.tree ps) ws i → Same H H' → Q (.int (i : Nat)) H'
def t_law_first_none (K : PySem.W.Frag) : TS :=
  (tSeq (tFor (iRng1 (tCons (tCB (rLenX K) (tCons (tVar 0) tNil)) tNil)) (gName 2)
      (tSeq (tAsg (tOp (rIxL K) (tVar 0) (tVar 2)) (gTup K 2 (gCons (gName 3) (gCons (gName 4) gNil))))
    (tIfS (tOr (tTest (tOp rEq (tVar 3) (tVar 4))) (tOr (tB (tInRg true (tVar 3) (tCons (tVar 1) tNil))) (tB (tInRg true (tVar 4) (tCons (tVar 1) tNil))))) (tRet (tVar 2)) tNext)))
    (tRet (tC .non)))
theorem k_nRg1 {H : Hp} {Q : VK} {i n : Int} (h : Q (.bl (!decide (0 ≤ i ∧ i < n))) H) : iRgIn true (.int i) [.int n] H Q := k_inRg1 h
theorem pure_law_first_none {v0 v1 : V} {H : Hp} {Q : VK} {E : XK} (hh : pr_law_first_none K v0 v1 H Q E) : t_law_first_none K ⟨fun _ H' => Q .non H', Q, fun _ _ => False, fun _ _ => False⟩ [some v0, some v1, none, none, none] H := by
  obtain ⟨ps, ws, d0, rfl, hz, hp, bad, q⟩ := hh
  obtain ⟨b, xs, rfl, hb, hxs⟩ := dp_list d0
  have hl := dpa_len hxs
  rw [List.length_map] at hl
  unfold t_law_first_none
  wtm_at "s"
  rw [hl, Int.toNat_natCast]
  refine forR (fun i σ' H' => H' = H ∧ (∃ k2 k3 k4, σ' = [some (.ref b), some (.int ((ps.length : Int) + 1)), k2, k3, k4]) ∧ ∀ (j : Nat) v, j < i → ws[j]? = some v → isWay (.tree ps) v.1 v.2) ⟨rfl, ⟨_, _, _, rfl⟩, fun j v hj => absurd hj (by omega)⟩ ?_ ?_
  · rintro i σ' H' hi ⟨rfl, ⟨k2, k3, k4, rfl⟩, al⟩
    obtain ⟨x, hx⟩ : ∃ x, xs[i]? = some x := ⟨xs[i]'(by omega), List.getElem?_eq_getElem (by omega)⟩
    obtain ⟨w, c, hw, rfl, hc⟩ := dpairs_get hxs hx
    wtm_at "s"
    refine k_ixL hb (by rw [Int.zero_add]; exact atI_nat hx) ?_
    have fin : ¬ isWay (.tree ps) w.1 w.2 → Q (.int (0 + (i : Nat))) H' := fun h => by
      rw [Int.zero_add]
      exact q i H' ⟨w, hw, h, fun j v hj hv => al j v hj hv⟩ (Same.refl _)
    wtm_at "s"
    refine k_it (fun c1 => ?_) (fun c1 => ?_)
    · wtm_at "s"
      exact fin fun h => h.1 c1
    · wtm_at "s"
      refine k_nRg1 ?_
      wtm_at "s"
      refine k_itn (fun c2 => ?_) (fun c2 => ?_)
      · wtm_at "s"
        exact fin fun h => c2 ⟨h.2.1, h.2.2.2.1⟩
      · wtm_at "s"
        refine k_nRg1 ?_
        wtm_at "s"
        refine k_itn (fun c3 => ?_) (fun c3 => ?_)
        · wtm_at "s"
          exact fin fun h => c3 ⟨h.2.2.1, h.2.2.2.2⟩
        · wtm_at "s"
          refine ⟨rfl, ⟨_, _, _, rfl⟩, fun j v hj hv => ?_⟩
          by_cases e : j = i
          · subst e; rw [hw] at hv; cases hv; exact ⟨c1, c2.1, c3.1, c2.2, c3.2⟩
          · exact al j v (by omega) hv
  · rintro σ' H' ⟨rfl, _, al⟩
    obtain ⟨w, hw, nw⟩ := bad
    obtain ⟨j, hj, e⟩ := List.getElem_of_mem hw
    exact (nw (al j w hj (by rw [List.getElem?_eq_getElem hj, e]))).elim
abbrev sp_law_first_none (K : PySem.W.Frag) : Sp := fun vs H Q E => ∃ v0 v1, vs = [v0, v1] ∧ pr_law_first_none K v0 v1 H Q E
theorem ok_law_first_none (T : Txt K mg A) : FnOk P w K mg base CX0 1 A.a_law_first_none A.d_law_first_none ["_law_ways_here", "_law_places"] (sp_law_first_none K) := by
  refine T.F_law_first_none.ok sc_law_first_none (fun vs H Q E h => by obtain ⟨v0, v1, rfl, _⟩ := h; rfl) (fun cdv A0 outer s H vs Q E hr h => ?_)
  obtain ⟨v0, v1, rfl, h⟩ := h
  exact ⟨t_law_first_none K, (pss_cons (ps_for PassesOwn.never rfl (pi_range1 (by rfl) T.z_range (pa_cons (pe_callB q_len (by rfl) T.z_len (by decide +kernel) (pa_cons (pv 0) pa_nil)) pa_nil)) (pg_name (i := 2) sc_law_first_none.nd rfl (Or.inl rfl))
      (pss_cons (ps_asg (pe_ix ix_list (pv 0) (pv 2) (fun _ _ => rfl)) (pg_tup (by rfl) (pgs_cons (pg_name (i := 3) sc_law_first_none.nd rfl (Or.inl rfl)) (pgs_cons (pg_name (i := 4) sc_law_first_none.nd rfl (Or.inl rfl)) pgs_nil))))
      (pss_one (ps_if (PW.pt (pw_or (pt_cmpR op_eq (pv 3) (pv 4) (nomark _)) (pw_or (pt_cmp (pc_inRg (neg := true) (by rfl) T.z_range (pv 3) (pa_cons (pv 1) pa_nil) (by rfl) (by rfl)) (by rfl)) (pw_or1 (pt_cmp (pc_inRg (neg := true) (by rfl) T.z_range (pv 4) (pa_cons (pv 1) pa_nil) (by rfl) (by rfl)) (by rfl)))))) (pss_one (ps_ret (pv 2))) pss_nil))))
      (pss_one (ps_ret pe_non))), pure_law_first_none h⟩


/-- a comprehension over zip of two lists -/
theorem lc_zip {σ : L2.St} {vs : List Nat} {g : TG} {tt : TT} {te : TE} {H1 : Hp} {QD : Addr → Hp → Prop} {a b : Addr} {xs ys : List V} (h1 : SqL K H1 a xs) (h2 : SqL K H1 b ys) (hl : xs.length = ys.length) (hz : xs.length ≤ 50000) (f : V → V → Option V)
    (step : ∀ (i : Nat) x y T H', xs[i]? = some x → ys[i]? = some y → Same H1 H' → H' T = some (.tup [x, y]) → ∀ (R : V → Hp → Prop) (R0 : Hp → Prop), (∀ z H'', f x y = some z → Same H' H'' → R z H'') → (∀ H'', f x y = none → Same H' H'' → R0 H'') →
      g (.ref T) (wipe σ vs) H' fun σ2 H2 => wipe σ2 vs = wipe σ vs ∧ tt σ2 H2 fun b H3 => if b = true then te σ2 H3 R else R0 H3)
    (h : ∀ D H', H1 D = none → Same H1 H' → H' D = some (.lst ((xs.zip ys).filterMap fun p => f p.1 p.2)) → QD D H') :
    ∃ a' b' xs' ys', [V.ref a, .ref b] = [.ref a', .ref b'] ∧ SqL K H1 a' xs' ∧ SqL K H1 b' ys' ∧ ∀ D, H1 D = none → ∃ W : Nat → Nat → Hp → Prop, (∃ m, W 0 m (upd H1 D (.lst []))) ∧ ∀ i m H, W i m H →
      ((Itz K a' b').stop i H ∧ QD D H) ∨ ((Itz K a' b').go i H ∧ ∃ Nx : Hp → Prop, (∀ H', Nx H' → ∃ m', m' < m ∧ W (i + 1) m' H') ∧ ∀ x H', (Itz K a' b').yld i H x H' → g x (wipe σ vs) H' fun σ2 H2 => wipe σ2 vs = wipe σ vs ∧ tt σ2 H2 fun b H3 =>
        if b = true then te σ2 H3 fun y H4 => ∃ acc, H4 D = some (.lst acc) ∧ acc.length < sizeLine ∧ Nx (upd H4 D (.lst (acc ++ [y]))) else Nx H3) := by
  refine ⟨a, b, xs, ys, rfl, h1, h2, fun D nD => lc_it (walk_zip (n := xs.length) (by omega)) (fun i H => Same H1 H ∧ H D = some (.lst (((xs.zip ys).take i).filterMap fun p => f p.1 p.2))) ⟨same_new nD, by rw [upd_same]; simp⟩ (fun i H _ e => ⟨e.1.seq h1, e.1.seq h2⟩) ?_ ?_⟩
  · rintro i v H H' hi ⟨sm, hD⟩ ⟨T, x, y, rfl, nT, rfl, hx, hy⟩
    have hp : (xs.zip ys)[i]? = some (x, y) := List.getElem?_zip_eq_some.mpr ⟨hx, hy⟩
    have tk := take_filterMap (f := fun p : V × V => f p.1 p.2) hp
    have sT : Same H (upd H T (.tup [x, y])) := same_new nT
    refine step i x y T _ hx hy (sm.trans sT) upd_same _ _ (fun z H'' hz' s2 => ⟨_, (sT.trans s2) _ _ hD, szl ?_, same_mut (sm.trans (sT.trans s2)) nD, ?_⟩) (fun H'' hn s2 => ⟨sm.trans (sT.trans s2), ?_⟩)
    · have := List.length_filterMap_le (fun p : V × V => f p.1 p.2) ((xs.zip ys).take i)
      simp at this
      omega
    · rw [upd_same, tk]
      simp only [hz']
      rfl
    · rw [tk]
      simp only [hn]
      rw [(sT.trans s2) _ _ hD]; simp
  · rintro H ⟨sm, hD⟩
    rw [List.take_of_length_le (by simp; omega)] at hD
    exact h D H nD sm hD
/-- an exception's class D is the i-th of the marks -/
structure MarkOf (K : PySem.W.Frag) (A : Ad) (D : Addr) (i : Nat) : Prop where
  lt : i < 14
  ve : PySem.W.kitOne K (.ref D) (.type "ValueError") = some true
  k0 : PySem.W.kitOne K (.ref D) (.ref A.c_NoCrossing) = some (decide (i = 0))
  k1 : PySem.W.kitOne K (.ref D) (.ref A.c_NoHues) = some (decide (i = 1))
  k2 : PySem.W.kitOne K (.ref D) (.ref A.c_NoLot) = some (decide (i = 2))
  k3 : PySem.W.kitOne K (.ref D) (.ref A.c_NoName) = some (decide (i = 3))
  k4 : PySem.W.kitOne K (.ref D) (.ref A.c_NoNet) = some (decide (i = 4))
  k5 : PySem.W.kitOne K (.ref D) (.ref A.c_NoNumber) = some (decide (i = 5))
  k6 : PySem.W.kitOne K (.ref D) (.ref A.c_NoPlace) = some (decide (i = 6))
  k7 : PySem.W.kitOne K (.ref D) (.ref A.c_NoRow) = some (decide (i = 7))
  k8 : PySem.W.kitOne K (.ref D) (.ref A.c_NoText) = some (decide (i = 8))
  k9 : PySem.W.kitOne K (.ref D) (.ref A.c_NoTie) = some (decide (i = 9))
  k10 : PySem.W.kitOne K (.ref D) (.ref A.c_NoTurning) = some (decide (i = 10))
  k11 : PySem.W.kitOne K (.ref D) (.ref A.c_NoWay) = some (decide (i = 11))
  k12 : PySem.W.kitOne K (.ref D) (.ref A.c_OtherNet) = some (decide (i = 12))
  k13 : PySem.W.kitOne K (.ref D) (.ref A.c_TooMany) = some (decide (i = 13))
def markWords : List String := ["crossing", "hues", "lot", "name", "net", "number", "place", "row", "text", "tie", "turning", "way", "other", "many"]
def markName (i : Nat) : Str := Str.ofString (markWords.getD i "")
theorem kept_same {H H' : Hp} {a D : Addr} (k : KeptAt H a D) (s : Same H H') : KeptAt H' a D := by
  obtain ⟨d, e, h⟩ := k
  refine ⟨d, s _ _ e, ?_⟩
  rcases h with h | ⟨dd, fs, h1, h2⟩
  · exact .inl h
  · exact .inr ⟨dd, fs, h1, s _ _ h2⟩
def mBools (i : Nat) : List V := [.bl (decide (i = 0)), .bl (decide (i = 1)), .bl (decide (i = 2)), .bl (decide (i = 3)), .bl (decide (i = 4)), .bl (decide (i = 5)), .bl (decide (i = 6)), .bl (decide (i = 7)), .bl (decide (i = 8)), .bl (decide (i = 9)), .bl (decide (i = 10)), .bl (decide (i = 11)), .bl (decide (i = 12)), .bl (decide (i = 13))]
def mStrs : List V := markWords.map fun s => V.str (Str.ofString s)
def mPick (x y : V) : Option V := match y with
  | .bl true => some x
  | _ => none
theorem mPick_all : ∀ i, i < 14 → (mStrs.zip (mBools i)).filterMap (fun p => mPick p.1 p.2) = [.str (markName i)] := by
  intro i hi
  have h : i = 0 ∨ i = 1 ∨ i = 2 ∨ i = 3 ∨ i = 4 ∨ i = 5 ∨ i = 6 ∨ i = 7 ∨ i = 8 ∨ i = 9 ∨ i = 10 ∨ i = 11 ∨ i = 12 ∨ i = 13 := by omega
  rcases h with rfl | rfl | rfl | rfl | rfl | rfl | rfl | rfl | rfl | rfl | rfl | rfl | rfl | rfl <;> rfl
def pr_law_marks (K : PySem.W.Frag) (A : Ad) (v0 : V) (H : Hp) (Q : VK) (_ : XK) : Prop := ∃ (a D : Addr) (i : Nat), v0 = .ref a ∧ KeptAt H a D ∧ ExK K D ∧ MarkOf K A D i ∧ ∀ p H', Same H H' → H' p = some (.lst [.str (markName i)]) → Q (.ref p) H'
def t_law_marks (K : PySem.W.Frag) (A : Ad) : TS :=
  (tSeq (tAsg (tLst (tCons (tCB (rIsA K) (tCons (tVar 0) (tCons (tC (.ref A.c_NoCrossing)) tNil))) (tCons (tCB (rIsA K) (tCons (tVar 0) (tCons (tC (.ref A.c_NoHues)) tNil))) (tCons (tCB (rIsA K) (tCons (tVar 0) (tCons (tC (.ref A.c_NoLot)) tNil))) tNil)))) (gName 1))
    (tSeq (tAsg (tOp rCat (tVar 1) (tLst (tCons (tCB (rIsA K) (tCons (tVar 0) (tCons (tC (.ref A.c_NoName)) tNil))) (tCons (tCB (rIsA K) (tCons (tVar 0) (tCons (tC (.ref A.c_NoNet)) tNil))) (tCons (tCB (rIsA K) (tCons (tVar 0) (tCons (tC (.ref A.c_NoNumber)) tNil))) tNil))))) (gName 1))
    (tSeq (tAsg (tOp rCat (tVar 1) (tLst (tCons (tCB (rIsA K) (tCons (tVar 0) (tCons (tC (.ref A.c_NoPlace)) tNil))) (tCons (tCB (rIsA K) (tCons (tVar 0) (tCons (tC (.ref A.c_NoRow)) tNil))) (tCons (tCB (rIsA K) (tCons (tVar 0) (tCons (tC (.ref A.c_NoText)) tNil))) tNil))))) (gName 1))
    (tSeq (tAsg (tOp rCat (tVar 1) (tLst (tCons (tCB (rIsA K) (tCons (tVar 0) (tCons (tC (.ref A.c_NoTie)) tNil))) (tCons (tCB (rIsA K) (tCons (tVar 0) (tCons (tC (.ref A.c_NoTurning)) tNil))) (tCons (tCB (rIsA K) (tCons (tVar 0) (tCons (tC (.ref A.c_NoWay)) tNil))) tNil))))) (gName 1))
    (tSeq (tAsg (tOp rCat (tVar 1) (tLst (tCons (tCB (rIsA K) (tCons (tVar 0) (tCons (tC (.ref A.c_OtherNet)) tNil))) (tCons (tCB (rIsA K) (tCons (tVar 0) (tCons (tC (.ref A.c_TooMany)) tNil))) tNil)))) (gName 1))
    (tSeq (tAsg (tLst (tCons (tC (.str (Str.ofString "crossing"))) (tCons (tC (.str (Str.ofString "hues"))) (tCons (tC (.str (Str.ofString "lot"))) (tCons (tC (.str (Str.ofString "name"))) (tCons (tC (.str (Str.ofString "net"))) (tCons (tC (.str (Str.ofString "number"))) (tCons (tC (.str (Str.ofString "place"))) (tCons (tC (.str (Str.ofString "row"))) (tCons (tC (.str (Str.ofString "text"))) (tCons (tC (.str (Str.ofString "tie"))) (tCons (tC (.str (Str.ofString "turning"))) (tCons (tC (.str (Str.ofString "way"))) tNil))))))))))))) (gName 2))
    (tSeq (tAsg (tLc (iZip K (tCons (tOp rCat (tVar 2) (tLst (tCons (tC (.str (Str.ofString "other"))) (tCons (tC (.str (Str.ofString "many"))) tNil)))) (tCons (tVar 1) tNil))) (gTup K 2 (gCons (gName 4) (gCons (gName 5) gNil))) (tB (tVar 5)) (tVar 4) [4, 5]) (gName 3))
    (tSeq (tIfS (tNot (tB (tCB (rIsA K) (tCons (tVar 0) (tCons (tC (.ty "ValueError")) tNil))))) (tDrop (tBM K "list" rAppend (tVar 3) (tCons (tC (.str (Str.ofString "none"))) tNil))) tNext)
    (tRet (tVar 3))))))))))
theorem pure_law_marks (T : Txt K mg A) {v0 : V} {H : Hp} {Q : VK} {E : XK} (h : pr_law_marks K A v0 H Q E) : t_law_marks K A ⟨fun _ H' => Q .non H', Q, fun _ _ => False, fun _ _ => False⟩ [some v0, none, none, none, none, none] H := by
  obtain ⟨a, D, i, rfl, kp, xk, kd, q⟩ := h
  unfold t_law_marks
  wtm_at "s"
  refine k_isXone (xs := []) kp xk (.own _) kd.k0 ?_
  wtm_at "s"
  refine k_isXone (xs := []) kp xk (.own _) kd.k1 ?_
  wtm_at "s"
  refine k_isXone (xs := []) kp xk (.own _) kd.k2 ?_
  wtm_at "s"
  refine kL (by simp) (fun l0 G0 n0 s0 e0 => ?_)
  wtm_at "s"
  refine k_isXone (xs := []) (kept_same kp (by wtm_at "sm")) xk (.own _) kd.k3 ?_
  wtm_at "s"
  refine k_isXone (xs := []) (kept_same kp (by wtm_at "sm")) xk (.own _) kd.k4 ?_
  wtm_at "s"
  refine k_isXone (xs := []) (kept_same kp (by wtm_at "sm")) xk (.own _) kd.k5 ?_
  wtm_at "s"
  refine kL (by simp) (fun l1 G1 n1 s1 e1 => ?_)
  refine k_catN (by wtm_at "at") e1 (by simp) (fun l2 G2 n2 s2 e2 => ?_)
  wtm_at "s"
  refine k_isXone (xs := []) (kept_same kp (by wtm_at "sm")) xk (.own _) kd.k6 ?_
  wtm_at "s"
  refine k_isXone (xs := []) (kept_same kp (by wtm_at "sm")) xk (.own _) kd.k7 ?_
  wtm_at "s"
  refine k_isXone (xs := []) (kept_same kp (by wtm_at "sm")) xk (.own _) kd.k8 ?_
  wtm_at "s"
  refine kL (by simp) (fun l3 G3 n3 s3 e3 => ?_)
  refine k_catN (by wtm_at "at") e3 (by simp) (fun l4 G4 n4 s4 e4 => ?_)
  wtm_at "s"
  refine k_isXone (xs := []) (kept_same kp (by wtm_at "sm")) xk (.own _) kd.k9 ?_
  wtm_at "s"
  refine k_isXone (xs := []) (kept_same kp (by wtm_at "sm")) xk (.own _) kd.k10 ?_
  wtm_at "s"
  refine k_isXone (xs := []) (kept_same kp (by wtm_at "sm")) xk (.own _) kd.k11 ?_
  wtm_at "s"
  refine kL (by simp) (fun l5 G5 n5 s5 e5 => ?_)
  refine k_catN (by wtm_at "at") e5 (by simp) (fun l6 G6 n6 s6 e6 => ?_)
  wtm_at "s"
  refine k_isXone (xs := []) (kept_same kp (by wtm_at "sm")) xk (.own _) kd.k12 ?_
  wtm_at "s"
  refine k_isXone (xs := []) (kept_same kp (by wtm_at "sm")) xk (.own _) kd.k13 ?_
  wtm_at "s"
  refine kL (by simp) (fun l7 G7 n7 s7 e7 => ?_)
  refine k_catN (by wtm_at "at") e7 (by simp) (fun l8 G8 n8 s8 e8 => ?_)
  wtm_at "s"
  refine kL (by simp) (fun l9 G9 n9 s9 e9 => ?_)
  wtm_at "s"
  refine kL (by simp) (fun lA GA nA sA eA => ?_)
  refine k_catN (by wtm_at "at") eA (by simp) (fun lB GB nB sB eB => ?_)
  wtm_at "s"
  have s8B : Same G8 GB := s9.trans (sA.trans sB)
  refine lc_zip (xs := mStrs) (ys := mBools i) (sl eB) (sl (s8B _ _ e8)) rfl (by decide) mPick ?_ (fun D' GC nD sC eC => ?_)
  · intro j x y tp H' hx hy sm etp R R0 g1 g2
    have hy' : ∃ b, y = .bl b := by
      have hm := List.mem_of_getElem? hy
      unfold mBools at hm
      simp only [List.mem_cons, List.not_mem_nil, or_false] at hm
      rcases hm with h | h | h | h | h | h | h | h | h | h | h | h | h | h <;> exact ⟨_, h⟩
    obtain ⟨b, rfl⟩ := hy'
    wtm_at "s"
    cases b with
    | true =>
      wtm_at "s"
      exact g1 _ _ rfl (Same.refl _)
    | false =>
      wtm_at "s"
      exact g2 _ rfl (Same.refl _)
  rw [mPick_all i kd.lt] at eC
  wtm_at "s"
  have s0C : Same H GC := by wtm_at "sm"
  refine k_isXone (xs := []) (kept_same kp s0C) xk (.ty _) kd.ve ?_
  wtm_at "s"
  exact q D' GC s0C eC
abbrev sp_law_marks (K : PySem.W.Frag) (A : Ad) : Sp := fun vs H Q E => ∃ v0, vs = [v0] ∧ pr_law_marks K A v0 H Q E
theorem ok_law_marks (T : Txt K mg A) : FnOk P w K mg base CX0 1 A.a_law_marks A.d_law_marks ["_law_caught"] (sp_law_marks K A) := by
  refine T.F_law_marks.ok sc_law_marks (fun vs H Q E h => by obtain ⟨v0, rfl, _⟩ := h; rfl) (fun cdv A0 outer s H vs Q E hr h => ?_)
  obtain ⟨v0, rfl, h⟩ := h
  exact ⟨t_law_marks K A, (pss_cons (ps_set (i := 1) sc_law_marks.nd rfl (Or.inl rfl) (pe_lst (pa_cons (pe_callB q_isA (by rfl) T.z_isinstance (by decide +kernel) (pa_cons (pv 0) (pa_cons (pe_glob (v := .ref A.c_NoCrossing) (by rfl) T.k_NoCrossing rfl) pa_nil))) (pa_cons (pe_callB q_isA (by rfl) T.z_isinstance (by decide +kernel) (pa_cons (pv 0) (pa_cons (pe_glob (v := .ref A.c_NoHues) (by rfl) T.k_NoHues rfl) pa_nil))) (pa_cons (pe_callB q_isA (by rfl) T.z_isinstance (by decide +kernel) (pa_cons (pv 0) (pa_cons (pe_glob (v := .ref A.c_NoLot) (by rfl) T.k_NoLot rfl) pa_nil))) pa_nil)))))
      (pss_cons (ps_set (i := 1) sc_law_marks.nd rfl (Or.inl rfl) (pe_op op_cat (pv 1) (pe_lst (pa_cons (pe_callB q_isA (by rfl) T.z_isinstance (by decide +kernel) (pa_cons (pv 0) (pa_cons (pe_glob (v := .ref A.c_NoName) (by rfl) T.k_NoName rfl) pa_nil))) (pa_cons (pe_callB q_isA (by rfl) T.z_isinstance (by decide +kernel) (pa_cons (pv 0) (pa_cons (pe_glob (v := .ref A.c_NoNet) (by rfl) T.k_NoNet rfl) pa_nil))) (pa_cons (pe_callB q_isA (by rfl) T.z_isinstance (by decide +kernel) (pa_cons (pv 0) (pa_cons (pe_glob (v := .ref A.c_NoNumber) (by rfl) T.k_NoNumber rfl) pa_nil))) pa_nil))))))
      (pss_cons (ps_set (i := 1) sc_law_marks.nd rfl (Or.inl rfl) (pe_op op_cat (pv 1) (pe_lst (pa_cons (pe_callB q_isA (by rfl) T.z_isinstance (by decide +kernel) (pa_cons (pv 0) (pa_cons (pe_glob (v := .ref A.c_NoPlace) (by rfl) T.k_NoPlace rfl) pa_nil))) (pa_cons (pe_callB q_isA (by rfl) T.z_isinstance (by decide +kernel) (pa_cons (pv 0) (pa_cons (pe_glob (v := .ref A.c_NoRow) (by rfl) T.k_NoRow rfl) pa_nil))) (pa_cons (pe_callB q_isA (by rfl) T.z_isinstance (by decide +kernel) (pa_cons (pv 0) (pa_cons (pe_glob (v := .ref A.c_NoText) (by rfl) T.k_NoText rfl) pa_nil))) pa_nil))))))
      (pss_cons (ps_set (i := 1) sc_law_marks.nd rfl (Or.inl rfl) (pe_op op_cat (pv 1) (pe_lst (pa_cons (pe_callB q_isA (by rfl) T.z_isinstance (by decide +kernel) (pa_cons (pv 0) (pa_cons (pe_glob (v := .ref A.c_NoTie) (by rfl) T.k_NoTie rfl) pa_nil))) (pa_cons (pe_callB q_isA (by rfl) T.z_isinstance (by decide +kernel) (pa_cons (pv 0) (pa_cons (pe_glob (v := .ref A.c_NoTurning) (by rfl) T.k_NoTurning rfl) pa_nil))) (pa_cons (pe_callB q_isA (by rfl) T.z_isinstance (by decide +kernel) (pa_cons (pv 0) (pa_cons (pe_glob (v := .ref A.c_NoWay) (by rfl) T.k_NoWay rfl) pa_nil))) pa_nil))))))
      (pss_cons (ps_set (i := 1) sc_law_marks.nd rfl (Or.inl rfl) (pe_op op_cat (pv 1) (pe_lst (pa_cons (pe_callB q_isA (by rfl) T.z_isinstance (by decide +kernel) (pa_cons (pv 0) (pa_cons (pe_glob (v := .ref A.c_OtherNet) (by rfl) T.k_OtherNet rfl) pa_nil))) (pa_cons (pe_callB q_isA (by rfl) T.z_isinstance (by decide +kernel) (pa_cons (pv 0) (pa_cons (pe_glob (v := .ref A.c_TooMany) (by rfl) T.k_TooMany rfl) pa_nil))) pa_nil)))))
      (pss_cons (ps_set (i := 2) sc_law_marks.nd rfl (Or.inl rfl) (pe_lst (pa_cons pe_str (pa_cons pe_str (pa_cons pe_str (pa_cons pe_str (pa_cons pe_str (pa_cons pe_str (pa_cons pe_str (pa_cons pe_str (pa_cons pe_str (pa_cons pe_str (pa_cons pe_str (pa_cons pe_str pa_nil))))))))))))))
      (pss_cons (ps_setLc (i := 3) (own := [("_law_word", 4), ("_law_truth", 5)]) (by rfl) sc_law_marks.nd rfl rfl (sw_true rfl rfl rfl (by decide +kernel)) (pi_zip (by rfl) T.z_zip (pa_cons (pe_op op_cat (pv 2) (pe_lst (pa_cons pe_str (pa_cons pe_str pa_nil)))) (pa_cons (pv 1) pa_nil))) (blkOk_by (own := [("_law_word", 4), ("_law_truth", 5)]) (N := ["_law_caught", "_law_some", "_law_words", "_law_found", "_law_word", "_law_truth"]) (sc := defScope s_law_marks) (by decide +kernel)) (fun _ _ _ _ _ => (pg_tup (by rfl) (pgs_cons (pg_name (i := 4) sc_law_marks.nd rfl (Or.inl rfl)) (pgs_cons (pg_name (i := 5) sc_law_marks.nd rfl (Or.inl rfl)) pgs_nil)))) (fun _ _ _ _ _ => (pts_one (pt_val (pv 5)))) (fun _ _ _ _ _ => (pv 4)))
      (pss_cons (ps_if (pt_not (pt_val (pe_callB q_isA (by rfl) T.z_isinstance (by decide +kernel) (pa_cons (pv 0) (pa_cons (pe_bltn (v := .ty "ValueError") (by rfl) T.z_ValueError (by decide +kernel) rfl) pa_nil))))) (pss_one (ps_expr (pe_bm PySem.F.plainAttrs_list PySem.F.slot_list_append PySem.F.type_list_append mt_append (pv 3) (pa_cons pe_str pa_nil)))) pss_nil)
      (pss_one (ps_ret (pv 3))))))))))), pure_law_marks T h⟩

theorem mark_NoNet (T : Txt K mg A) : MarkOf K A A.c_NoNet 4 := ⟨by decide, T.q_NoNet_ValueError, T.q_NoNet_NoCrossing, T.q_NoNet_NoHues, T.q_NoNet_NoLot, T.q_NoNet_NoName, T.q_NoNet_NoNet, T.q_NoNet_NoNumber, T.q_NoNet_NoPlace, T.q_NoNet_NoRow, T.q_NoNet_NoText, T.q_NoNet_NoTie, T.q_NoNet_NoTurning, T.q_NoNet_NoWay, T.q_NoNet_OtherNet, T.q_NoNet_TooMany⟩
theorem mark_OtherNet (T : Txt K mg A) : MarkOf K A A.c_OtherNet 12 := ⟨by decide, T.q_OtherNet_ValueError, T.q_OtherNet_NoCrossing, T.q_OtherNet_NoHues, T.q_OtherNet_NoLot, T.q_OtherNet_NoName, T.q_OtherNet_NoNet, T.q_OtherNet_NoNumber, T.q_OtherNet_NoPlace, T.q_OtherNet_NoRow, T.q_OtherNet_NoText, T.q_OtherNet_NoTie, T.q_OtherNet_NoTurning, T.q_OtherNet_NoWay, T.q_OtherNet_OtherNet, T.q_OtherNet_TooMany⟩
theorem mark_NoWay (T : Txt K mg A) : MarkOf K A A.c_NoWay 11 := ⟨by decide, T.q_NoWay_ValueError, T.q_NoWay_NoCrossing, T.q_NoWay_NoHues, T.q_NoWay_NoLot, T.q_NoWay_NoName, T.q_NoWay_NoNet, T.q_NoWay_NoNumber, T.q_NoWay_NoPlace, T.q_NoWay_NoRow, T.q_NoWay_NoText, T.q_NoWay_NoTie, T.q_NoWay_NoTurning, T.q_NoWay_NoWay, T.q_NoWay_OtherNet, T.q_NoWay_TooMany⟩
theorem mark_NoPlace (T : Txt K mg A) : MarkOf K A A.c_NoPlace 6 := ⟨by decide, T.q_NoPlace_ValueError, T.q_NoPlace_NoCrossing, T.q_NoPlace_NoHues, T.q_NoPlace_NoLot, T.q_NoPlace_NoName, T.q_NoPlace_NoNet, T.q_NoPlace_NoNumber, T.q_NoPlace_NoPlace, T.q_NoPlace_NoRow, T.q_NoPlace_NoText, T.q_NoPlace_NoTie, T.q_NoPlace_NoTurning, T.q_NoPlace_NoWay, T.q_NoPlace_OtherNet, T.q_NoPlace_TooMany⟩

def dueD : Due → PyData
  | .well => .list [.str (Str.ofString "well")]
  | .net => .list [.str (Str.ofString "net")]
  | .other => .list [.str (Str.ofString "other")]
  | .place => .list [.str (Str.ofString "place")]
  | .way i => .list [.str (Str.ofString "way"), .int (i : Nat)]
def dueV : Due → List V
  | .well => [.str (Str.ofString "well")]
  | .net => [.str (Str.ofString "net")]
  | .other => [.str (Str.ofString "other")]
  | .place => [.str (Str.ofString "place")]
  | .way i => [.str (Str.ofString "way"), .int (i : Nat)]
theorem due_dp {K : PySem.W.Frag} {H : Hp} {p : Addr} (due : Due) (e : H p = some (.lst (dueV due))) : Dp K H (.ref p) (dueD due) := by
  cases due with
  | way i => exact .lst (sl e) (.cons (.str _) (.cons (.int _) .nil))
  | well => exact .lst (sl e) (.cons (.str _) .nil)
  | net => exact .lst (sl e) (.cons (.str _) .nil)
  | other => exact .lst (sl e) (.cons (.str _) .nil)
  | place => exact .lst (sl e) (.cons (.str _) .nil)
theorem due_sh (due : Due) : Sh 1 (dueD due) := by
  have st : ∀ s, PyData.strOk s = true → Sh 0 (.str s) := fun s h => ⟨h, Nat.zero_le _⟩
  cases due <;> refine sh_list fun d hd => ?_ <;> simp only [List.mem_cons, List.not_mem_nil, or_false] at hd
  · rw [hd]; exact st _ (by decide +kernel)
  · rw [hd]; exact st _ (by decide +kernel)
  · rw [hd]; exact st _ (by decide +kernel)
  · rcases hd with rfl | rfl
    · exact st _ (by decide +kernel)
    · exact sh_int
  · rw [hd]; exact st _ (by decide +kernel)
def pr_law_refused (K : PySem.W.Frag) (A : Ad) (v0 v1 v2 v3 : V) (H : Hp) (Q : VK) (_ : XK) : Prop := ∃ (wh : Nat) (M : ANet) (ws : List (Int × Int)) (x : Int) (due : Due), v0 = .int (wh : Nat) ∧ v3 = .int x ∧ wh ≤ 2 ∧ Dp K H v1 M.d ∧ M.lens ∧ Dp K H v2 (dPairs ws) ∧ ws.length ≤ 60 ∧ DueIs wh M ws x due ∧
  ∀ p H', Same H H' → H' p = some (.lst (dueV due)) → Q (.ref p) H'
def t_law_refused (K : PySem.W.Frag) (A : Ad) : TS :=
  (tSeq (tAsg (tC .non) (gName 4))
    (tSeq (tTryK K (.ref A.c_TieError) 5 4 fun W => (tIfS (tTest (tOp rEq (tVar 0) (tC (.int 0)))) (tDrop (tCallS (sp_crossing_at K A) (WE W) (tCons (tVar 1) (tCons (tVar 2) (tCons (tVar 3) tNil))))) (tIfS (tTest (tOp rEq (tVar 0) (tC (.int 1)))) (tDrop (tCallS (sp_tree_hues K A) (WE W) (tCons (tVar 1) (tCons (tVar 2) tNil)))) (tDrop (tCallS (sp_join_hues K A) (WE W) (tCons (tVar 1) (tCons (tVar 2) (tCons (tLst (tCons (tLstRg (tRg1 (tCB (rLenX K) (tCons (tVar 2) tNil)))) tNil)) tNil))))))))
    (tSeq (tIfS (tTest (tOp xIsN (tVar 4) (tC .non))) (tRet (tLst (tCons (tC (.str (Str.ofString "well"))) tNil))) tNext)
    (tSeq (tIfS (tB (tCB (rIsA K) (tCons (tVar 4) (tCons (tC (.ref A.c_NoWay)) tNil)))) (tRet (tOp rCat (tCall (sp_law_marks K A) [] E0 (tCons (tVar 4) tNil)) (tLst (tCons (tXat K (Str.ofString "at") (tVar 4)) tNil)))) tNext)
    (tRet (tCall (sp_law_marks K A) [] E0 (tCons (tVar 4) tNil)))))))
theorem pure_law_refused (T : Txt K mg A) {v0 v1 v2 v3 : V} {H : Hp} {Q : VK} {E : XK} (h : pr_law_refused K A v0 v1 v2 v3 H Q E) : t_law_refused K A ⟨fun _ H' => Q .non H', Q, fun _ _ => False, fun _ _ => False⟩ [some v0, some v1, some v2, some v3, none, none] H := by
  obtain ⟨wh, M, ws, x, due, rfl, rfl, hwh, d1, hlen, d2, hz, hd, q⟩ := h
  obtain ⟨wb, wys, rfl, hwb, dwy⟩ := dp_list d2
  have lwy : wys.length = ws.length := by rw [dpa_len dwy, List.length_map]
  unfold t_law_refused
  have hw3 : wh = 0 ∨ wh = 1 ∨ wh = 2 := by omega
  cases due with
  | net =>
    refine k_seq (k_set (k_c (k_seq (tryjoin (fun cls d σ' H1 => cls = .ref A.c_NoNet ∧ d = none ∧ Same H H1 ∧ σ' = [some (.int (wh : Nat)), some v1, some (.ref wb), some (.int x), some .non, none]) ?_ (fun rest => ?_)))))
    · rintro cls d σ' H1 ⟨rfl, rfl, s1, rfl⟩
      refine k_caught (by show 5 < 6; decide) (PySem.W.exm_ref T.x_TieError.hs T.x_TieError.hd T.t_TieError T.u_NoNet) (fun e ne => ?_)
      have s2 := same_new (o := ExV (.ref A.c_NoNet) none e) ne
      have kp : KeptAt (upd H1 e (ExV (.ref A.c_NoNet) none e)) e A.c_NoNet := ⟨none, upd_same, .inl rfl⟩
      generalize upd H1 e (ExV (.ref A.c_NoNet) none e) = H2 at s2 kp ⊢
      wtm_at "s"
      refine k_isXone (xs := []) kp T.x_NoNet (.own _) T.q_NoNet_NoWay ?_
      wtm_at "s"
      refine ⟨_, rfl, e, A.c_NoNet, 4, rfl, kp, T.x_NoNet, mark_NoNet T, fun p H3 s3 e3 => ?_⟩
      exact q p H3 (s1.trans (s2.trans s3)) e3
    refine k_try ?_
    rcases hw3 with rfl | rfl | rfl
    · wtm_at "s"
      exact ⟨_, _, _, rfl, M, ws, x, .net, rfl, d1, hlen, d2, hz, hd, rest _ _ _ _ ⟨rfl, rfl, (Same.refl _), rfl⟩⟩
    · wtm_at "s"
      exact ⟨_, _, rfl, M, ws, x, .net, d1, hlen, d2, hz, hd, rest _ _ _ _ ⟨rfl, rfl, (Same.refl _), rfl⟩⟩
    · wtm_at "s"
      refine kR ⟨by omega, by omega, by omega, by omega⟩ (fun l1 H1 nl1 s1 e1 => ?_)
      wtm_at "s"
      refine kL (by simp) (fun l2 H2 nl2 s2 e2 => ?_)
      wtm_at "s"
      exact ⟨_, _, _, rfl, M, ws, x, .net, dp_same (s1.trans s2) d1, hlen, dp_same (s1.trans s2) d2, hz, hd, rest _ _ _ _ ⟨rfl, rfl, (s1.trans s2), rfl⟩⟩
  | other =>
    refine k_seq (k_set (k_c (k_seq (tryjoin (fun cls d σ' H1 => cls = .ref A.c_OtherNet ∧ d = none ∧ Same H H1 ∧ σ' = [some (.int (wh : Nat)), some v1, some (.ref wb), some (.int x), some .non, none]) ?_ (fun rest => ?_)))))
    · rintro cls d σ' H1 ⟨rfl, rfl, s1, rfl⟩
      refine k_caught (by show 5 < 6; decide) (PySem.W.exm_ref T.x_TieError.hs T.x_TieError.hd T.t_TieError T.u_OtherNet) (fun e ne => ?_)
      have s2 := same_new (o := ExV (.ref A.c_OtherNet) none e) ne
      have kp : KeptAt (upd H1 e (ExV (.ref A.c_OtherNet) none e)) e A.c_OtherNet := ⟨none, upd_same, .inl rfl⟩
      generalize upd H1 e (ExV (.ref A.c_OtherNet) none e) = H2 at s2 kp ⊢
      wtm_at "s"
      refine k_isXone (xs := []) kp T.x_OtherNet (.own _) T.q_OtherNet_NoWay ?_
      wtm_at "s"
      refine ⟨_, rfl, e, A.c_OtherNet, 12, rfl, kp, T.x_OtherNet, mark_OtherNet T, fun p H3 s3 e3 => ?_⟩
      exact q p H3 (s1.trans (s2.trans s3)) e3
    refine k_try ?_
    rcases hw3 with rfl | rfl | rfl
    · wtm_at "s"
      exact ⟨_, _, _, rfl, M, ws, x, .other, rfl, d1, hlen, d2, hz, hd, rest _ _ _ _ ⟨rfl, rfl, (Same.refl _), rfl⟩⟩
    · wtm_at "s"
      exact ⟨_, _, rfl, M, ws, x, .other, d1, hlen, d2, hz, hd, rest _ _ _ _ ⟨rfl, rfl, (Same.refl _), rfl⟩⟩
    · wtm_at "s"
      refine kR ⟨by omega, by omega, by omega, by omega⟩ (fun l1 H1 nl1 s1 e1 => ?_)
      wtm_at "s"
      refine kL (by simp) (fun l2 H2 nl2 s2 e2 => ?_)
      wtm_at "s"
      exact ⟨_, _, _, rfl, M, ws, x, .other, dp_same (s1.trans s2) d1, hlen, dp_same (s1.trans s2) d2, hz, hd, rest _ _ _ _ ⟨rfl, rfl, (s1.trans s2), rfl⟩⟩
  | place =>
    refine k_seq (k_set (k_c (k_seq (tryjoin (fun cls d σ' H1 => cls = .ref A.c_NoPlace ∧ d = none ∧ Same H H1 ∧ σ' = [some (.int (wh : Nat)), some v1, some (.ref wb), some (.int x), some .non, none]) ?_ (fun rest => ?_)))))
    · rintro cls d σ' H1 ⟨rfl, rfl, s1, rfl⟩
      refine k_caught (by show 5 < 6; decide) (PySem.W.exm_ref T.x_TieError.hs T.x_TieError.hd T.t_TieError T.u_NoPlace) (fun e ne => ?_)
      have s2 := same_new (o := ExV (.ref A.c_NoPlace) none e) ne
      have kp : KeptAt (upd H1 e (ExV (.ref A.c_NoPlace) none e)) e A.c_NoPlace := ⟨none, upd_same, .inl rfl⟩
      generalize upd H1 e (ExV (.ref A.c_NoPlace) none e) = H2 at s2 kp ⊢
      wtm_at "s"
      refine k_isXone (xs := []) kp T.x_NoPlace (.own _) T.q_NoPlace_NoWay ?_
      wtm_at "s"
      refine ⟨_, rfl, e, A.c_NoPlace, 6, rfl, kp, T.x_NoPlace, mark_NoPlace T, fun p H3 s3 e3 => ?_⟩
      exact q p H3 (s1.trans (s2.trans s3)) e3
    refine k_try ?_
    obtain rfl : wh = 0 := hd.1
    wtm_at "s"
    exact ⟨_, _, _, rfl, M, ws, x, .place, rfl, d1, hlen, d2, hz, hd, rest _ _ _ _ ⟨rfl, rfl, Same.refl _, rfl⟩⟩
  | way i =>
    refine k_seq (k_set (k_c (k_seq (tryjoin (fun cls dd σ' H2 => ∃ H1 d, cls = .ref A.c_NoWay ∧ dd = some d ∧ Same H H1 ∧ H1 d = none ∧ H2 = upd H1 d (.xd [(Str.ofString "at", .int (i : Nat))]) ∧ σ' = [some (.int (wh : Nat)), some v1, some (.ref wb), some (.int x), some .non, none]) ?_ (fun rest => ?_)))))
    · rintro cls dd σ' H2 ⟨H1, d, rfl, rfl, s1, nd, rfl, rfl⟩
      refine k_caught (by show 5 < 6; decide) (PySem.W.exm_ref T.x_TieError.hs T.x_TieError.hd T.t_TieError T.u_NoWay) (fun e ne => ?_)
      have s2 := (same_new (o := .xd [(Str.ofString "at", V.int (i : Nat))]) nd).trans (same_new (o := ExV (.ref A.c_NoWay) (some d) e) ne)
      have e1 : upd (upd H1 d (.xd [(Str.ofString "at", V.int (i : Nat))])) e (ExV (.ref A.c_NoWay) (some d) e) e = some (ExV (.ref A.c_NoWay) (some d) e) := upd_same
      have e2 : upd (upd H1 d (.xd [(Str.ofString "at", V.int (i : Nat))])) e (ExV (.ref A.c_NoWay) (some d) e) d = some (.xd [(Str.ofString "at", V.int (i : Nat))]) := same_new ne _ _ upd_same
      generalize upd (upd H1 d (.xd [(Str.ofString "at", V.int (i : Nat))])) e (ExV (.ref A.c_NoWay) (some d) e) = H2 at s2 e1 e2 ⊢
      have kp : KeptAt H2 e A.c_NoWay := ⟨_, e1, .inr ⟨_, _, rfl, e2⟩⟩
      wtm_at "s"
      refine k_isXone (xs := []) kp T.x_NoWay (.own _) T.q_NoWay_NoWay ?_
      wtm_at "s"
      refine ⟨_, rfl, e, A.c_NoWay, 11, rfl, kp, T.x_NoWay, mark_NoWay T, fun p H3 s3 e3 => ?_⟩
      wtm_at "s"
      refine ⟨e, A.c_NoWay, d, _, _, rfl, s3 _ _ e1, T.x_NoWay.xf, T.nf_NoWay, s3 _ _ e2, rfl, ?_⟩
      wtm_at "s"
      refine kL (by simp) (fun l H4 nl s4 e4 => ?_)
      wtm_at "s"
      refine k_catN (s4 _ _ e3) e4 (by simp) (fun l2 H5 nl2 s5 e5 => ?_)
      exact q l2 H5 (s1.trans (s2.trans (s3.trans (s4.trans s5)))) e5
    refine k_try ?_
    rcases hw3 with rfl | rfl | rfl
    · wtm_at "s"
      exact ⟨_, _, _, rfl, M, ws, x, .way i, rfl, d1, hlen, d2, hz, hd, fun d nd => rest _ _ _ _ ⟨_, d, rfl, rfl, (Same.refl _), nd, rfl, rfl⟩⟩
    · wtm_at "s"
      exact ⟨_, _, rfl, M, ws, x, .way i, d1, hlen, d2, hz, hd, fun d nd => rest _ _ _ _ ⟨_, d, rfl, rfl, (Same.refl _), nd, rfl, rfl⟩⟩
    · wtm_at "s"
      refine kR ⟨by omega, by omega, by omega, by omega⟩ (fun l1 H1 nl1 s1 e1 => ?_)
      wtm_at "s"
      refine kL (by simp) (fun l2 H2 nl2 s2 e2 => ?_)
      wtm_at "s"
      exact ⟨_, _, _, rfl, M, ws, x, .way i, dp_same (s1.trans s2) d1, hlen, dp_same (s1.trans s2) d2, hz, hd, fun d nd => rest _ _ _ _ ⟨_, d, rfl, rfl, (s1.trans s2), nd, rfl, rfl⟩⟩
  | well =>
    refine k_seq (k_set (k_c (k_seq (k_try ?_))))
    have fin : ∀ H1 : Hp, Same H H1 → ∀ l H2, H1 l = none → Same H1 H2 → H2 l = some (.lst [.str (Str.ofString "well")]) → Q (.ref l) H2 := fun H1 s1 l H2 nl s2 e2 => q l H2 (s1.trans s2) e2
    rcases hw3 with rfl | rfl | rfl
    · wtm_at "s"
      refine ⟨_, _, _, rfl, M, ws, x, .well, rfl, d1, hlen, d2, hz, hd, fun p H1 s1 => ?_⟩
      wtm_at "s"
      exact kL (by simp) (fun l H2 nl s2 e2 => fin H1 s1 l H2 nl s2 e2)
    · wtm_at "s"
      refine ⟨_, _, rfl, M, ws, x, .well, d1, hlen, d2, hz, hd, fun p H1 s1 => ?_⟩
      wtm_at "s"
      exact kL (by simp) (fun l H2 nl s2 e2 => fin H1 s1 l H2 nl s2 e2)
    · exact absurd rfl hd.1
abbrev sp_law_refused (K : PySem.W.Frag) (A : Ad) : Sp := fun vs H Q E => ∃ v0 v1 v2 v3, vs = [v0, v1, v2, v3] ∧ pr_law_refused K A v0 v1 v2 v3 H Q E
theorem ok_law_refused (T : Txt K mg A) : FnOk P w K mg base CX0 8 A.a_law_refused A.d_law_refused ["_law_which", "_law_net", "_law_ways_here", "_law_place"] (sp_law_refused K A) := by
  refine T.F_law_refused.ok sc_law_refused (fun vs H Q E h => by obtain ⟨v0, v1, v2, v3, rfl, _⟩ := h; rfl) (fun cdv A0 outer s H vs Q E hr h => ?_)
  obtain ⟨v0, v1, v2, v3, rfl, h⟩ := h
  exact ⟨t_law_refused K A, (pss_cons (ps_set (i := 4) sc_law_refused.nd rfl (Or.inl rfl) pe_non)
      (pss_cons (ps_try_kept (i := 5) (tb := fun W => (tIfS (tTest (tOp rEq (tVar 0) (tC (.int 0)))) (tDrop (tCallS (sp_crossing_at K A) (WE W) (tCons (tVar 1) (tCons (tVar 2) (tCons (tVar 3) tNil))))) (tIfS (tTest (tOp rEq (tVar 0) (tC (.int 1)))) (tDrop (tCallS (sp_tree_hues K A) (WE W) (tCons (tVar 1) (tCons (tVar 2) tNil)))) (tDrop (tCallS (sp_join_hues K A) (WE W) (tCons (tVar 1) (tCons (tVar 2) (tCons (tLst (tCons (tLstRg (tRg1 (tCB (rLenX K) (tCons (tVar 2) tNil)))) tNil)) tNil)))))))) (ts := fun _ _ _ => tAsg (tVar 5) (gName 4)) (Wout := fun _ _ _ _ => False) rfl rfl rfl sc_law_refused.nd rfl rfl ⟨by rfl, by decide, Or.inl T.k_TieError⟩ takes0
      (fun W pn xe tk _ => (pss_one (ps_if (pt_cmpR op_eq (pv 0) pe_int (nomark _)) (pss_one (ps_expr (pe_callS (ok_crossing_at T) (hr.mono (by decide)) (by rfl) T.g_crossing_at T.F_crossing_at.kp T.b_crossing_at (fun σ => passAt tk σ) (pa_cons (pv 1) (pa_cons (pv 2) (pa_cons (pv 3) pa_nil)))))) (pss_one (ps_if (pt_cmpR op_eq (pv 0) pe_int (nomark _)) (pss_one (ps_expr (pe_callS (ok_tree_hues T) (hr.mono (by decide)) (by rfl) T.g_tree_hues T.F_tree_hues.kp T.b_tree_hues (fun σ => passAt tk σ) (pa_cons (pv 1) (pa_cons (pv 2) pa_nil))))) (pss_one (ps_expr (pe_callS (ok_join_hues T) (hr.mono (by decide)) (by rfl) T.g_join_hues T.F_join_hues.kp T.b_join_hues (fun σ => passAt tk σ) (pa_cons (pv 1) (pa_cons (pv 2) (pa_cons (pe_lst (pa_cons (pe_listRg (by rfl) (by rfl) T.z_list (prg_1 (by rfl) T.z_range (pe_callB q_len (by rfl) T.z_len (by decide +kernel) (pa_cons (pv 2) pa_nil)))) pa_nil)) pa_nil)))))))))))
      (fun a oe cls d pn hz hf => (pss_one (ps_set (i := 4) sc_law_refused.nd rfl (Or.inl rfl) (pv 5)))))
      (pss_cons (ps_if (pt_cmpR op_isN (pv 4) pe_non (nomark _)) (pss_one (ps_ret (pe_lst (pa_cons pe_str pa_nil)))) pss_nil)
      (pss_cons (ps_if (pt_val (pe_callB q_isA (by rfl) T.z_isinstance (by decide +kernel) (pa_cons (pv 4) (pa_cons (pe_glob (v := .ref A.c_NoWay) (by rfl) T.k_NoWay rfl) pa_nil)))) (pss_one (ps_ret (pe_op op_cat (pe_call (ok_law_marks T) (hr.mono (by decide)) (by rfl) T.g_law_marks T.F_law_marks.kp T.b_law_marks .nil pass0 (pa_cons (pv 4) pa_nil)) (pe_lst (pa_cons (pe_xat (pv 4)) pa_nil))))) pss_nil)
      (pss_one (ps_ret (pe_call (ok_law_marks T) (hr.mono (by decide)) (by rfl) T.g_law_marks T.F_law_marks.kp T.b_law_marks .nil pass0 (pa_cons (pv 4) pa_nil)))))))), pure_law_refused T h⟩


theorem sh_anet {M : ANet} (h : PyData.strOk M.kd = true) : Sh 3 M.d := by
  refine sh_two ⟨h, Nat.zero_le _⟩ ?_
  cases M.sz with
  | inl n => exact sh_int
  | inr ps => exact sh_ints (n := 1) ps
def pr_law_all (K : PySem.W.Frag) (A : Ad) (v0 v1 v2 v3 : V) (H : Hp) (Q : VK) (_ : XK) : Prop := ∃ (M : ANet) (ws : List (Int × Int)) (x : Int) (due : Due), v2 = .int x ∧ Dp K H v0 M.d ∧ M.lens ∧ PyData.strOk M.kd = true ∧ Dp K H v1 (dPairs ws) ∧ ws.length ≤ 60 ∧ Dp K H v3 (dueD due) ∧ (∀ wh, DueIs wh M ws x due) ∧ ∀ H', Same H H' → Q (.bl true) H'
def t_law_all (K : PySem.W.Frag) (A : Ad) : TS :=
  (tSeq (tAsg (tTup (tCons (tOp (rIxT K) (tVar 0) (tC (.int 0))) (tCons (tOp (rIxT K) (tVar 0) (tC (.int 1))) tNil))) (gName 4))
    (tSeq (tIfS (tB (tCB (rIsi K) (tCons (tOp (rIxT K) (tVar 0) (tC (.int 1))) (tCons (tC (.ty "list")) tNil)))) (tAsg (tTup (tCons (tOp (rIxT K) (tVar 0) (tC (.int 0))) (tCons (tCB (rListOf K) (tCons (tOp (rIxT K) (tVar 0) (tC (.int 1))) tNil)) tNil))) (gName 4)) tNext)
    (tSeq (tAsg (tCB (rListOf K) (tCons (tVar 1) tNil)) (gName 5))
    (tSeq (tFor (iRng1 (tCons (tC (.int 3)) tNil)) (gName 6)
      (tIfS (tOr (tTest (tOp (rNeD K) (tCall (sp_law_refused K A) [] E0 (tCons (tVar 6) (tCons (tVar 4) (tCons (tVar 5) (tCons (tVar 2) tNil))))) (tVar 3))) (tOr (tTest (tOp (rNeD K) (tVar 4) (tVar 0))) (tTest (tOp (rNeD K) (tVar 5) (tVar 1))))) (tRet (tC (.bl false))) tNext))
    (tRet (tC (.bl true)))))))
theorem pure_law_all (T : Txt K mg A) {v0 v1 v2 v3 : V} {H : Hp} {Q : VK} {E : XK} (h : pr_law_all K A v0 v1 v2 v3 H Q E) : t_law_all K A ⟨fun _ H' => Q .non H', Q, fun _ _ => False, fun _ _ => False⟩ [some v0, some v1, some v2, some v3, none, none, none] H := by
  obtain ⟨M, ws, x, due, rfl, d0, hlen, hst, d1, hz, d3, hd, q⟩ := h
  obtain ⟨a, y, rfl, hs, hy⟩ := dp_anet d0
  obtain ⟨wb, wys, rfl, hwb, dwy⟩ := dp_list d1
  unfold t_law_all
  wtm_at "s"
  refine kT (by simp) (fun t1 H1 nt1 s1 e1 => ?_)
  refine k_gname (seqO (fun σ' H' => ∃ hv, σ' = [some (.ref a), some (.ref wb), some (.int x), some v3, some hv, none, none] ∧ Same H H' ∧ Dp K H' hv M.d) ?_ (fun nx1 go1 => ?_))
  rotate_left
  · have hs1 := same_seqT s1 hs
    have hy1 := dp_same s1 hy
    have d1' : Dp K H1 (.ref t1) M.d := .tup (stp e1) (.cons (.str _) (.cons hy1 .nil))
    cases hsz : M.sz with
    | inl n =>
      rw [hsz] at hy1
      obtain rfl := dp_int hy1
      wtm_at "s"
      exact go1 _ _ ⟨_, rfl, s1, d1'⟩
    | inr ps =>
      rw [hsz] at hy1
      obtain ⟨b, rfl, hb⟩ := dp_ints hy1
      wtm_at "s"
      refine k_listN hb (fun l H2 nl s2 e2 => ?_)
      wtm_at "s"
      refine kT (by simp) (fun t2 H3 nt2 s3 e3 => ?_)
      wtm_at "s"
      refine go1 _ _ ⟨.ref t2, rfl, s1.trans (s2.trans s3), ?_⟩
      have : M.d = .tuple [.str M.kd, dInts ps] := by show PyData.tuple [.str M.kd, szd M.sz] = _; rw [hsz]; rfl
      rw [this]
      exact .tup (stp e3) (.cons (.str _) (.cons (dp_of_ints (sl (s3 _ _ e2))) .nil))
  rintro σ' H2 ⟨hv, rfl, s2, dh⟩
  wtm_at "s"
  refine k_listN (s2.seq hwb) (fun wl H3 nwl s3 e3 => ?_)
  have dw : Dp K H3 (.ref wl) (dPairs ws) := .lst (sl e3) (dpa_same (s2.trans s3) dwy)
  wtm_at "s"
  refine forR (fun i σ' H' => Same H3 H' ∧ ∃ k6, σ' = [some (.ref a), some (.ref wb), some (.int x), some v3, some hv, some (.ref wl), k6]) ⟨Same.refl _, _, rfl⟩ ?_ ?_
  · rintro i σ' H4 hi ⟨s4, k6, rfl⟩
    have hi3 : i < 3 := hi
    rw [Int.zero_add]
    wtm_at "s"
    refine ⟨_, _, _, _, rfl, i, M, ws, x, due, rfl, rfl, by omega, dp_same (s3.trans s4) dh, hlen, dp_same s4 dw, hz, hd i, fun p H5 s5 e5 => ?_⟩
    have s35 := s4.trans s5
    have s05 := s2.trans (s3.trans s35)
    wtm_at "s"
    refine k_neD0 (n := 1) (due_dp due e5) (dp_same s05 d3) (due_sh due) (by decide) ?_
    wtm_at "s"
    refine k_neD0 (n := 3) (dp_same (s3.trans s35) dh) (dp_same s05 d0) (sh_anet hst) (by decide) ?_
    wtm_at "s"
    refine k_neD0 (n := 2) (dp_same s35 dw) (dp_same s05 d1) (sh_pairs ws) (by decide) ?_
    wtm_at "s"
    exact ⟨s35, _, rfl⟩
  · rintro σ' H4 ⟨s4, k6, rfl⟩
    wtm_at "s"
    exact q H4 (s2.trans (s3.trans s4))
abbrev sp_law_all (K : PySem.W.Frag) (A : Ad) : Sp := fun vs H Q E => ∃ v0 v1 v2 v3, vs = [v0, v1, v2, v3] ∧ pr_law_all K A v0 v1 v2 v3 H Q E
theorem ok_law_all (T : Txt K mg A) : FnOk P w K mg base CX0 9 A.a_law_all A.d_law_all ["_law_net", "_law_ways_here", "_law_place", "_law_due"] (sp_law_all K A) := by
  refine T.F_law_all.ok sc_law_all (fun vs H Q E h => by obtain ⟨v0, v1, v2, v3, rfl, _⟩ := h; rfl) (fun cdv A0 outer s H vs Q E hr h => ?_)
  obtain ⟨v0, v1, v2, v3, rfl, h⟩ := h
  exact ⟨t_law_all K A, (pss_cons (ps_set (i := 4) sc_law_all.nd rfl (Or.inl rfl) (pe_tup (pa_cons (pe_ix ix_tup (pv 0) pe_int (fun _ _ => rfl)) (pa_cons (pe_ix ix_tup (pv 0) pe_int (fun _ _ => rfl)) pa_nil))))
      (pss_cons (ps_if (pt_val (pe_callB q_isi (by rfl) T.z_isinstance (by decide +kernel) (pa_cons (pe_ix ix_tup (pv 0) pe_int (fun _ _ => rfl)) (pa_cons (pe_bltn (v := .ty "list") (by rfl) T.z_list (by decide +kernel) rfl) pa_nil)))) (pss_one (ps_set (i := 4) sc_law_all.nd rfl (Or.inl rfl) (pe_tup (pa_cons (pe_ix ix_tup (pv 0) pe_int (fun _ _ => rfl)) (pa_cons (pe_callTy q_listOf (by rfl) T.z_list (by decide +kernel) (pa_cons (pe_ix ix_tup (pv 0) pe_int (fun _ _ => rfl)) pa_nil)) pa_nil))))) pss_nil)
      (pss_cons (ps_set (i := 5) sc_law_all.nd rfl (Or.inl rfl) (pe_callTy q_listOf (by rfl) T.z_list (by decide +kernel) (pa_cons (pv 1) pa_nil)))
      (pss_cons (ps_for PassesOwn.never rfl (pi_range1 (by rfl) T.z_range (pa_cons pe_int pa_nil)) (pg_name (i := 6) sc_law_all.nd rfl (Or.inl rfl))
      (pss_one (ps_if (PW.pt (pw_or (pt_cmpR (op_neD hr.units) (pe_call (ok_law_refused T) (hr.mono (by decide)) (by rfl) T.g_law_refused T.F_law_refused.kp T.b_law_refused .nil pass0 (pa_cons (pv 6) (pa_cons (pv 4) (pa_cons (pv 5) (pa_cons (pv 2) pa_nil))))) (pv 3) (nomark _)) (pw_or (pt_cmpR (op_neD hr.units) (pv 4) (pv 0) (nomark _)) (pw_or1 (pt_cmpR (op_neD hr.units) (pv 5) (pv 1) (nomark _)))))) (pss_one (ps_ret pe_bl)) pss_nil)))
      (pss_one (ps_ret pe_bl)))))), pure_law_all T h⟩


def sp_law (K : PySem.W.Frag) : Sp := fun vs H Q _ => ∃ (a : Addr) (ns : List Int), vs = [.ref a] ∧ SqL K H a (ns.map V.int) ∧ ns.length ≤ 63 ∧ ∀ H', Q (.bl true) H'
def t_law (K : PySem.W.Frag) (A : Ad) : TS :=
  (tSeq (tAsg (tCall (sp_law_purse K) [] E0 (tCons (tVar 0) tNil)) (gName 1))
    (tSeq (tFor (iRng1 (tCons (tC (.int 5)) tNil)) (gName 2)
      (tSeq (tAsg (tCall (sp_law_tree K) [] E0 (tCons (tVar 1) tNil)) (gName 3))
    (tSeq (tAsg (tOp xAdd (tCB (rLenX K) (tCons (tVar 3) tNil)) (tC (.int 1))) (gName 4))
    (tSeq (tAsg (tCall (sp_law_ways K) [] E0 (tCons (tVar 1) (tCons (tVar 4) (tCons (tC (.int 40)) tNil)))) (gName 5))
    (tSeq (tAsg (tTup (tCons (tC (.str (Str.ofString "tree"))) (tCons (tVar 3) tNil))) (gName 6))
    (tSeq (tAsg (tCall (sp_law_no_ways K) [] E0 (tCons (tVar 1) (tCons (tVar 5) (tCons (tVar 4) tNil)))) (gName 7))
    (tSeq (tAsg (tOp (rIxL K) (tLst (tCons (tUn xNeg (tC (.int 1))) (tCons (tVar 4) (tCons (tOp xAdd (tVar 4) (tCall (sp_law_draw K) [] E0 (tCons (tVar 1) (tCons (tOp xPow (tC (.int 10)) (tC (.int 29))) tNil)))) (tCons (tOp xSub (tUn xNeg (tC (.int 1))) (tCall (sp_law_draw K) [] E0 (tCons (tVar 1) (tCons (tOp xPow (tC (.int 10)) (tC (.int 29))) tNil)))) tNil))))) (tCall (sp_law_draw K) [] E0 (tCons (tVar 1) (tCons (tC (.int 4)) tNil)))) (gName 8))
    (tSeq (tAsg (tCall (sp_law_no_net K) [] E0 (tCons (tVar 1) (tCons (tVar 3) tNil))) (gName 9))
    (tSeq (tAsg (tOp (rIxL K) (tLst (tCons (tTup (tCons (tC (.str (Str.ofString "line"))) (tCons (tC (.int 2)) tNil))) (tCons (tTup (tCons (tC (.str (Str.ofString "line"))) (tCons (tC (.int 60)) tNil))) (tCons (tTup (tCons (tC (.str (Str.ofString "ring"))) (tCons (tC (.int 3)) tNil))) (tCons (tTup (tCons (tC (.str (Str.ofString "ring"))) (tCons (tC (.int 60)) tNil))) tNil))))) (tCall (sp_law_draw K) [] E0 (tCons (tVar 1) (tCons (tC (.int 4)) tNil)))) (gName 10))
    (tSeq (tIfS (tOr (tNot (tB (tCall (sp_law_all K A) [] E0 (tCons (tVar 9) (tCons (tVar 7) (tCons (tVar 8) (tCons (tLst (tCons (tC (.str (Str.ofString "net"))) tNil)) tNil))))))) (tNot (tB (tCall (sp_law_all K A) [] E0 (tCons (tVar 10) (tCons (tVar 7) (tCons (tVar 8) (tCons (tLst (tCons (tC (.str (Str.ofString "other"))) tNil)) tNil)))))))) (tRet (tC (.bl false))) tNext)
    (tSeq (tAsg (tLst (tCons (tC (.str (Str.ofString "way"))) (tCons (tCall (sp_law_first_none K) [] E0 (tCons (tVar 7) (tCons (tVar 4) tNil))) tNil))) (gName 11))
    (tSeq (tIfS (tOr (tNot (tB (tCall (sp_law_all K A) [] E0 (tCons (tVar 6) (tCons (tVar 7) (tCons (tVar 8) (tCons (tVar 11) tNil))))))) (tNot (tB (tCall (sp_law_all K A) [] E0 (tCons (tVar 6) (tCons (tVar 7) (tCons (tC (.int 0)) (tCons (tVar 11) tNil)))))))) (tRet (tC (.bl false))) tNext)
    (tSeq (tIfS (tOr (tTest (tOp (rNeD K) (tCall (sp_law_refused K A) [] E0 (tCons (tC (.int 0)) (tCons (tVar 6) (tCons (tVar 5) (tCons (tVar 8) tNil))))) (tLst (tCons (tC (.str (Str.ofString "place"))) tNil)))) (tTest (tOp (rNeD K) (tCall (sp_law_refused K A) [] E0 (tCons (tC (.int 0)) (tCons (tVar 6) (tCons (tVar 5) (tCons (tOp xSub (tVar 4) (tC (.int 1))) tNil))))) (tLst (tCons (tC (.str (Str.ofString "well"))) tNil))))) (tRet (tC (.bl false))) tNext)
    (tIfS (tOr (tTest (tOp (rNeD K) (tCall (sp_law_refused K A) [] E0 (tCons (tC (.int 0)) (tCons (tVar 6) (tCons (tVar 5) (tCons (tC (.int 0)) tNil))))) (tLst (tCons (tC (.str (Str.ofString "well"))) tNil)))) (tTest (tOp (rNeD K) (tCall (sp_law_refused K A) [] E0 (tCons (tC (.int 1)) (tCons (tVar 6) (tCons (tVar 5) (tCons (tVar 8) tNil))))) (tLst (tCons (tC (.str (Str.ofString "well"))) tNil))))) (tRet (tC (.bl false))) tNext))))))))))))))
    (tRet (tC (.bl true)))))
theorem pure_law (T0 : Txt K mg A) {v0 : V} {H : Hp} {Q : VK} (h : ∃ (a : Addr) (ns : List Int), v0 = .ref a ∧ SqL K H a (ns.map V.int) ∧ ns.length ≤ 63 ∧ ∀ H', Q (.bl true) H') : t_law K A ⟨fun _ H' => Q .non H', Q, fun _ _ => False, fun _ _ => False⟩ [some v0, none, none, none, none, none, none, none, none, none, none, none] H := by
  obtain ⟨a, ns, rfl, ha, hz, q⟩ := h
  unfold t_law
  wtm_at "s"
  refine ⟨_, rfl, a, ns, rfl, ha, hz, fun pu ce n H1 s1 npu nce L1 => ?_⟩
  clear s1 npu nce ha hz
  wtm_at "s"
  refine forR (fun i σ' H' => ∃ (t : Int) (k2 k3 k4 k5 k6 k7 k8 k9 k10 k11 : Option V), σ' = [some (.ref a), some (.ref pu), k2, k3, k4, k5, k6, k7, k8, k9, k10, k11] ∧ Pu H' pu ce n t ∧ t ≤ 1000 * i) ⟨0, _, _, _, _, _, _, _, _, _, _, rfl, L1, by simp⟩ ?_ ?_
  · clear L1
    rintro i σ' H2 hi ⟨t, k2, k3, k4, k5, k6, k7, k8, k9, k10, k11, rfl, L2, ht⟩
    have hi2 : i < 5 := hi
    wtm_at "s"
    refine ⟨_, rfl, pu, ce, n, t, rfl, L2, by omega, fun pa ps t3 H3 npa npa' L3 ht3 S3 epa T => ?_⟩
    have lps : ps.length < 60 := T.2.1
    have lps1 : 1 ≤ ps.length := T.1
    have epa3 : H3 pa = some (.lst (ps.map V.int)) := hid_same _ _ _ _ epa
    wtm_at "s"
    refine ⟨_, _, _, rfl, pu, ce, n, t3, (ps.length : Nat) + 1, 40, rfl, by simp, rfl, L3, by omega, by omega, by omega, by decide, by decide, fun wl wys ws t6 H6 nwl nwl' L6 ht6 S6 ewl dws lws hok0 => ?_⟩
    have hok : ∀ w ∈ ws, isWay (.tree ps) w.1 w.2 := fun w hw => by
      obtain ⟨h1, h2, h3, h4, h5⟩ := hok0 w hw
      exact ⟨h1, h2, h3, h4, h5⟩
    have epa6 := S6 _ _ epa
    have dW6 : Dp K (hid [pu, ce] H6) (.ref wl) (dPairs ws) := .lst (sl (by rw [hid_ne nwl']; exact ewl)) (dpa_same (hid_sub fun x hx => by
      simp only [List.mem_cons, List.not_mem_nil, or_false] at hx ⊢
      rcases hx with h | h <;> simp [h]) dws)
    have dP6 : Dp K (hid [pu, ce] H6) (.ref pa) (dInts ps) := dp_of_ints (sl epa6)
    clear S6 S3 L3 epa3 epa npa npa' hok0 dws ewl nwl nwl' L2 epa6
    wtm_at "s"
    refine kTq L6 (by simp) (fun nt H7 nnt s7 ent => ?_)
    have dN7 : Dp K (hid [pu, ce] H7) (.ref nt) (Net.tree ps).a.d := .tup (stp ent) (.cons (.str _) (.cons (dp_same (hid_mono s7) dP6) .nil))
    have dP7 := dp_same (hid_mono (S := [pu, ce]) s7) dP6
    have dW7 := dp_same (hid_mono (S := [pu, ce]) s7) dW6
    have L7 := L6.same s7
    clear ent nnt s7 dP6 dW6 L6
    wtm_at "s"
    refine ⟨_, _, _, rfl, pu, ce, n, t6, ps, ws, rfl, rfl, L7, by omega, by omega, dW7, by omega, fun wr ws' t8 H8 nwr nwr' L8 ht8 S8 dR8 lr bad => ?_⟩
    have dN8 := dp_same S8 dN7
    have dP8 := dp_same S8 dP7
    have dW8 := dp_same S8 dW7
    clear S8 dN7 dP7 dW7 L7
    wtm_at "s"
    refine ⟨_, _, rfl, pu, ce, n, t8, _, rfl, rfl, L8, by omega, by decide, by decide, fun y1 H9 y10 y11 L9 S9 => ?_⟩
    wtm_at "s"
    refine ⟨_, _, rfl, pu, ce, n, _, _, rfl, rfl, L9, by omega, by decide, by decide, fun y2 HA y20 y21 LA SA => ?_⟩
    wtm_at "s"
    refine kL (by simp) (fun xl HB nxl sB eB => ?_)
    have nxl' := LA.fresh nxl
    have LB := LA.same sB
    wtm_at "s"
    refine ⟨_, _, rfl, pu, ce, n, _, 4, rfl, rfl, LB, by omega, by omega, by omega, fun r HC r0 r1 LC SC => ?_⟩
    have eC := keeps SC eB nxl'
    refine k_ixI (ns := [-1, (ps.length : Int) + 1, (ps.length : Int) + 1 + y1, -1 - y2]) (sl eC) r0 (by simpa using r1) ?_
    have hx := getD_memI (ns := [-1, (ps.length : Int) + 1, (ps.length : Int) + 1 + y1, -1 - y2]) r0 (by simpa using r1)
    generalize ([-1, (ps.length : Int) + 1, (ps.length : Int) + 1 + y1, -1 - y2] : List Int).getD r.toNat 0 = x at hx
    have hx2 : x < 0 ∨ (ps.length : Int) < x := by
      simp only [List.mem_cons, List.not_mem_nil, or_false] at hx
      omega
    have S8C : Same (hid [pu, ce] H8) (hid [pu, ce] HC) := S9.trans (SA.trans ((hid_mono sB).trans SC))
    have dN := dp_same S8C dN8
    have dP := dp_same S8C dP8
    have dW := dp_same S8C dW8
    have dR := dp_same S8C dR8
    clear hx y11 y21 eC eB nxl nxl' sB SC S9 SA S8C dN8 dP8 dW8 dR8 L9 LA LB L8
    wtm_at "s"
    refine ⟨_, _, rfl, pu, ce, n, _, ps, rfl, LC, by omega, dP, by omega, by omega, fun nv M HD LD SD dM hlen hno hst => ?_⟩
    replace dN := dp_same SD dN
    replace dP := dp_same SD dP
    replace dW := dp_same SD dW
    replace dR := dp_same SD dR
    clear LC SD
    wtm_at "s"
    refine kTq LD (by simp) (fun o1 G1 no1 u1 w1 => ?_)
    have M1 := LD.same u1
    wtm_at "s"
    refine kTq M1 (by simp) (fun o2 G2 no2 u2 w2 => ?_)
    have M2 := M1.same u2
    wtm_at "s"
    refine kTq M2 (by simp) (fun o3 G3 no3 u3 w3 => ?_)
    have M3 := M2.same u3
    wtm_at "s"
    refine kTq M3 (by simp) (fun o4 G4 no4 u4 w4 => ?_)
    have M4 := M3.same u4
    wtm_at "s"
    refine kLq M4 (by simp) (fun o5 G5 no5 u5 w5 => ?_)
    have M5 := M4.same u5
    wtm_at "s"
    refine ⟨_, _, rfl, pu, ce, n, _, 4, rfl, rfl, M5, by omega, by omega, by omega, fun r2 G6 r20 r21 M6 S6 => ?_⟩
    have uS : Same (hid [pu, ce] HD) (hid [pu, ce] G6) := ((hid_mono u1).trans ((hid_mono u2).trans ((hid_mono u3).trans ((hid_mono u4).trans (hid_mono u5))))).trans S6
    obtain ⟨ov, O, hat, dO, oO, kO, sO⟩ : ∃ (ov : V) (O : Net), atI [V.ref o1, .ref o2, .ref o3, .ref o4] r2 = some ov ∧ Dp K (hid [pu, ce] G6) ov O.a.d ∧ O.ok ∧ O.kind ≠ Str.ofString "tree" ∧ PyData.strOk O.a.kd = true := by
      have v4 := (hid_mono (S := [pu, ce]) u5).trans S6
      have v3 := (hid_mono (S := [pu, ce]) u4).trans v4
      have v2 := (hid_mono (S := [pu, ce]) u3).trans v3
      have v1 := (hid_mono (S := [pu, ce]) u2).trans v2
      have hr : r2 = 0 ∨ r2 = 1 ∨ r2 = 2 ∨ r2 = 3 := by omega
      rcases hr with rfl | rfl | rfl | rfl
      · exact ⟨.ref o1, .line 2, rfl, .tup (stp (v1 _ _ w1)) (.cons (.str _) (.cons (.int _) .nil)), ⟨by decide, by decide⟩, sne (by decide +kernel), by show PyData.strOk (Str.ofString "line") = true; decide +kernel⟩
      · exact ⟨.ref o2, .line 60, rfl, .tup (stp (v2 _ _ w2)) (.cons (.str _) (.cons (.int _) .nil)), ⟨by decide, by decide⟩, sne (by decide +kernel), by show PyData.strOk (Str.ofString "line") = true; decide +kernel⟩
      · exact ⟨.ref o3, .ring 3, rfl, .tup (stp (v3 _ _ w3)) (.cons (.str _) (.cons (.int _) .nil)), ⟨by decide, by decide⟩, sne (by decide +kernel), by show PyData.strOk (Str.ofString "ring") = true; decide +kernel⟩
      · exact ⟨.ref o4, .ring 60, rfl, .tup (stp (v4 _ _ w4)) (.cons (.str _) (.cons (.int _) .nil)), ⟨by decide, by decide⟩, sne (by decide +kernel), by show PyData.strOk (Str.ofString "ring") = true; decide +kernel⟩
    refine k_ixL (sl (hid_same _ _ _ _ (S6 _ _ w5))) hat ?_
    replace dN := dp_same (hid_same _ _) (dp_same uS dN)
    replace dW := dp_same (hid_same _ _) (dp_same uS dW)
    replace dR := dp_same (hid_same _ _) (dp_same uS dR)
    replace dM := dp_same (hid_same _ _) (dp_same uS dM)
    replace dO := dp_same (hid_same _ _) dO
    clear dP w1 w2 w3 w4 w5 u1 u2 u3 u4 u5 uS S6 M5 M4 M3 M2 M1 LD no1 no2 no3 no4 no5 hat
    wtm_at "s"
    refine kL (by simp) (fun d1 F1 nd1 x1 z1 => ?_)
    wtm_at "s"
    refine ⟨_, _, _, _, rfl, M, ws', x, .net, rfl, dp_same x1 dM, hlen, hst, dp_same x1 dR, by omega, due_dp .net z1, fun _ => hno, fun F2 x2 => ?_⟩
    have x02 := x1.trans x2
    wtm_at "s"
    refine kL (by simp) (fun d2 F3 nd2 x3 z3 => ?_)
    have x03 := x02.trans x3
    wtm_at "s"
    refine ⟨_, _, _, _, rfl, O.a, ws', x, .other, rfl, dp_same x03 dO, a_lens oO, sO, dp_same x03 dR, by omega, due_dp .other z3, fun _ => ⟨O, rfl, oO, kO⟩, fun F4 x4 => ?_⟩
    have x04 := x03.trans x4
    wtm_at "s"
    refine ⟨_, _, rfl, ps, ws', dp_same x04 dR, rfl, by omega, by omega, bad, fun j F5 fb x5 => ?_⟩
    have x05 := x04.trans x5
    wtm_at "s"
    refine kL (by simp) (fun d3 F6 nd3 x6 z6 => ?_)
    have x06 := x05.trans x6
    have tst : PyData.strOk (Net.tree ps).a.kd = true := by show PyData.strOk (Str.ofString "tree") = true; decide +kernel
    have tl : (Net.tree ps).a.lens := a_lens (N := .tree ps) T
    wtm_at "s"
    refine ⟨_, _, _, _, rfl, (Net.tree ps).a, ws', x, .way j, rfl, dp_same x06 dN, tl, tst, dp_same x06 dR, by omega, due_dp (.way j) z6, fun _ => ⟨ps, rfl, T, fb⟩, fun F7 x7 => ?_⟩
    have x07 := x06.trans x7
    wtm_at "s"
    refine ⟨_, _, _, _, rfl, (Net.tree ps).a, ws', 0, .way j, rfl, dp_same x07 dN, tl, tst, dp_same x07 dR, by omega, due_dp (.way j) (x7 _ _ z6), fun _ => ⟨ps, rfl, T, fb⟩, fun F8 x8 => ?_⟩
    have x08 := x07.trans x8
    wtm_at "s"
    refine ⟨_, _, _, _, rfl, 0, (Net.tree ps).a, ws, x, .place, rfl, rfl, by decide, dp_same x08 dN, tl, dp_same x08 dW, by omega, ⟨rfl, ps, rfl, T, hok, hx2⟩, fun p9 F9 x9 z9 => ?_⟩
    have x09 := x08.trans x9
    wtm_at "s"
    refine kL (by simp) (fun d4 F10 nd4 x10 z10 => ?_)
    have x010 := x09.trans x10
    refine k_neD0 (n := 1) (due_dp .place (x10 _ _ z9)) (due_dp .place z10) (due_sh .place) (by decide) ?_
    wtm_at "s"
    refine ⟨_, _, _, _, rfl, 0, (Net.tree ps).a, ws, _, .well, rfl, rfl, by decide, dp_same x010 dN, tl, dp_same x010 dW, by omega, ⟨by decide, ps, rfl, T, hok, fun _ => by omega⟩, fun p11 F11 x11 z11 => ?_⟩
    have x011 := x010.trans x11
    wtm_at "s"
    refine kL (by simp) (fun d5 F12 nd5 x12 z12 => ?_)
    have x012 := x011.trans x12
    refine k_neD0 (n := 1) (due_dp .well (x12 _ _ z11)) (due_dp .well z12) (due_sh .well) (by decide) ?_
    wtm_at "s"
    refine ⟨_, _, _, _, rfl, 0, (Net.tree ps).a, ws, 0, .well, rfl, rfl, by decide, dp_same x012 dN, tl, dp_same x012 dW, by omega, ⟨by decide, ps, rfl, T, hok, fun _ => by omega⟩, fun p13 F13 x13 z13 => ?_⟩
    have x013 := x012.trans x13
    wtm_at "s"
    refine kL (by simp) (fun d6 F14 nd6 x14 z14 => ?_)
    have x014 := x013.trans x14
    refine k_neD0 (n := 1) (due_dp .well (x14 _ _ z13)) (due_dp .well z14) (due_sh .well) (by decide) ?_
    wtm_at "s"
    refine ⟨_, _, _, _, rfl, 1, (Net.tree ps).a, ws, x, .well, rfl, rfl, by decide, dp_same x014 dN, tl, dp_same x014 dW, by omega, ⟨by decide, ps, rfl, T, hok, fun h => absurd h (by decide)⟩, fun p15 F15 x15 z15 => ?_⟩
    have x015 := x014.trans x15
    wtm_at "s"
    refine kL (by simp) (fun d7 F16 nd7 x16 z16 => ?_)
    have x016 := x015.trans x16
    refine k_neD0 (n := 1) (due_dp .well (x16 _ _ z15)) (due_dp .well z16) (due_sh .well) (by decide) ?_
    wtm_at "s"
    exact ⟨_, _, _, _, _, _, _, _, _, _, _, rfl, M6.same x016, by omega⟩
  · rintro σ' H1 ⟨t, k2, k3, k4, k5, k6, k7, k8, k9, k10, k11, rfl, L1, ht⟩
    wtm_at "s"
    exact q _
theorem ok_law (T : Txt K mg A) : FnOk P w K mg base CX0 10 A.a_law A.d_law ["_law_script"] (sp_law K) := by
  refine T.F_law.ok sc_law (fun vs H Q E h => by obtain ⟨a, ns, rfl, _⟩ := h; rfl) (fun cdv A0 outer s H vs Q E hr h => ?_)
  obtain ⟨a, ns, rfl, h⟩ := h
  exact ⟨t_law K A, (pss_cons (ps_set (i := 1) sc_law.nd rfl (Or.inl rfl) (pe_call (ok_law_purse T) (hr.mono (by decide)) (by rfl) T.g_law_purse T.F_law_purse.kp T.b_law_purse .nil pass0 (pa_cons (pv 0) pa_nil)))
      (pss_cons (ps_for PassesOwn.never rfl (pi_range1 (by rfl) T.z_range (pa_cons pe_int pa_nil)) (pg_name (i := 2) sc_law.nd rfl (Or.inl rfl))
      (pss_cons (ps_set (i := 3) sc_law.nd rfl (Or.inl rfl) (pe_call (ok_law_tree T) (hr.mono (by decide)) (by rfl) T.g_law_tree T.F_law_tree.kp T.b_law_tree .nil pass0 (pa_cons (pv 1) pa_nil)))
      (pss_cons (ps_set (i := 4) sc_law.nd rfl (Or.inl rfl) (pe_op op_add (pe_callB q_len (by rfl) T.z_len (by decide +kernel) (pa_cons (pv 3) pa_nil)) pe_int))
      (pss_cons (ps_set (i := 5) sc_law.nd rfl (Or.inl rfl) (pe_call (ok_law_ways T) (hr.mono (by decide)) (by rfl) T.g_law_ways T.F_law_ways.kp T.b_law_ways .nil pass0 (pa_cons (pv 1) (pa_cons (pv 4) (pa_cons pe_int pa_nil)))))
      (pss_cons (ps_set (i := 6) sc_law.nd rfl (Or.inl rfl) (pe_tup (pa_cons pe_str (pa_cons (pv 3) pa_nil))))
      (pss_cons (ps_set (i := 7) sc_law.nd rfl (Or.inl rfl) (pe_call (ok_law_no_ways T) (hr.mono (by decide)) (by rfl) T.g_law_no_ways T.F_law_no_ways.kp T.b_law_no_ways .nil pass0 (pa_cons (pv 1) (pa_cons (pv 5) (pa_cons (pv 4) pa_nil)))))
      (pss_cons (ps_set (i := 8) sc_law.nd rfl (Or.inl rfl) (pe_ix ix_list (pe_lst (pa_cons (pe_un un_neg pe_int) (pa_cons (pv 4) (pa_cons (pe_op op_add (pv 4) (pe_call (ok_law_draw T) (hr.mono (by decide)) (by rfl) T.g_law_draw T.F_law_draw.kp T.b_law_draw .nil pass0 (pa_cons (pv 1) (pa_cons (pe_op op_pow pe_int pe_int) pa_nil)))) (pa_cons (pe_op op_sub (pe_un un_neg pe_int) (pe_call (ok_law_draw T) (hr.mono (by decide)) (by rfl) T.g_law_draw T.F_law_draw.kp T.b_law_draw .nil pass0 (pa_cons (pv 1) (pa_cons (pe_op op_pow pe_int pe_int) pa_nil)))) pa_nil))))) (pe_call (ok_law_draw T) (hr.mono (by decide)) (by rfl) T.g_law_draw T.F_law_draw.kp T.b_law_draw .nil pass0 (pa_cons (pv 1) (pa_cons pe_int pa_nil))) (fun _ _ => rfl)))
      (pss_cons (ps_set (i := 9) sc_law.nd rfl (Or.inl rfl) (pe_call (ok_law_no_net T) (hr.mono (by decide)) (by rfl) T.g_law_no_net T.F_law_no_net.kp T.b_law_no_net .nil pass0 (pa_cons (pv 1) (pa_cons (pv 3) pa_nil))))
      (pss_cons (ps_set (i := 10) sc_law.nd rfl (Or.inl rfl) (pe_ix ix_list (pe_lst (pa_cons (pe_tup (pa_cons pe_str (pa_cons pe_int pa_nil))) (pa_cons (pe_tup (pa_cons pe_str (pa_cons pe_int pa_nil))) (pa_cons (pe_tup (pa_cons pe_str (pa_cons pe_int pa_nil))) (pa_cons (pe_tup (pa_cons pe_str (pa_cons pe_int pa_nil))) pa_nil))))) (pe_call (ok_law_draw T) (hr.mono (by decide)) (by rfl) T.g_law_draw T.F_law_draw.kp T.b_law_draw .nil pass0 (pa_cons (pv 1) (pa_cons pe_int pa_nil))) (fun _ _ => rfl)))
      (pss_cons (ps_if (PW.pt (pw_or (pt_not (pt_val (pe_call (ok_law_all T) (hr.mono (by decide)) (by rfl) T.g_law_all T.F_law_all.kp T.b_law_all .nil pass0 (pa_cons (pv 9) (pa_cons (pv 7) (pa_cons (pv 8) (pa_cons (pe_lst (pa_cons pe_str pa_nil)) pa_nil))))))) (pw_or1 (pt_not (pt_val (pe_call (ok_law_all T) (hr.mono (by decide)) (by rfl) T.g_law_all T.F_law_all.kp T.b_law_all .nil pass0 (pa_cons (pv 10) (pa_cons (pv 7) (pa_cons (pv 8) (pa_cons (pe_lst (pa_cons pe_str pa_nil)) pa_nil)))))))))) (pss_one (ps_ret pe_bl)) pss_nil)
      (pss_cons (ps_set (i := 11) sc_law.nd rfl (Or.inl rfl) (pe_lst (pa_cons pe_str (pa_cons (pe_call (ok_law_first_none T) (hr.mono (by decide)) (by rfl) T.g_law_first_none T.F_law_first_none.kp T.b_law_first_none .nil pass0 (pa_cons (pv 7) (pa_cons (pv 4) pa_nil))) pa_nil))))
      (pss_cons (ps_if (PW.pt (pw_or (pt_not (pt_val (pe_call (ok_law_all T) (hr.mono (by decide)) (by rfl) T.g_law_all T.F_law_all.kp T.b_law_all .nil pass0 (pa_cons (pv 6) (pa_cons (pv 7) (pa_cons (pv 8) (pa_cons (pv 11) pa_nil))))))) (pw_or1 (pt_not (pt_val (pe_call (ok_law_all T) (hr.mono (by decide)) (by rfl) T.g_law_all T.F_law_all.kp T.b_law_all .nil pass0 (pa_cons (pv 6) (pa_cons (pv 7) (pa_cons pe_int (pa_cons (pv 11) pa_nil)))))))))) (pss_one (ps_ret pe_bl)) pss_nil)
      (pss_cons (ps_if (PW.pt (pw_or (pt_cmpR (op_neD hr.units) (pe_call (ok_law_refused T) (hr.mono (by decide)) (by rfl) T.g_law_refused T.F_law_refused.kp T.b_law_refused .nil pass0 (pa_cons pe_int (pa_cons (pv 6) (pa_cons (pv 5) (pa_cons (pv 8) pa_nil))))) (pe_lst (pa_cons pe_str pa_nil)) (nomark _)) (pw_or1 (pt_cmpR (op_neD hr.units) (pe_call (ok_law_refused T) (hr.mono (by decide)) (by rfl) T.g_law_refused T.F_law_refused.kp T.b_law_refused .nil pass0 (pa_cons pe_int (pa_cons (pv 6) (pa_cons (pv 5) (pa_cons (pe_op op_sub (pv 4) pe_int) pa_nil))))) (pe_lst (pa_cons pe_str pa_nil)) (nomark _))))) (pss_one (ps_ret pe_bl)) pss_nil)
      (pss_one (ps_if (PW.pt (pw_or (pt_cmpR (op_neD hr.units) (pe_call (ok_law_refused T) (hr.mono (by decide)) (by rfl) T.g_law_refused T.F_law_refused.kp T.b_law_refused .nil pass0 (pa_cons pe_int (pa_cons (pv 6) (pa_cons (pv 5) (pa_cons pe_int pa_nil))))) (pe_lst (pa_cons pe_str pa_nil)) (nomark _)) (pw_or1 (pt_cmpR (op_neD hr.units) (pe_call (ok_law_refused T) (hr.mono (by decide)) (by rfl) T.g_law_refused T.F_law_refused.kp T.b_law_refused .nil pass0 (pa_cons pe_int (pa_cons (pv 6) (pa_cons (pv 5) (pa_cons (pv 8) pa_nil))))) (pe_lst (pa_cons pe_str pa_nil)) (nomark _))))) (pss_one (ps_ret pe_bl)) pss_nil)))))))))))))))
      (pss_one (ps_ret pe_bl)))), pure_law T ⟨a, ns, rfl, h⟩⟩

theorem all_mk {l : PySem.W.OpenLaw} {w : World} {K : PySem.W.Frag} {h : Heap} {mg : Str → Option Value} {fa : Addr} {f0 f1 f2 f3 f4 f5 f6 f7 f8 f9 f10 f11 f12 f13 f14 f15 f16 f17 f18 f19 f20 f21 f22 f23 f24 f25 f26 f27 f28 f29 f30 f31 f32 f33 f34 f35 : Addr} (X : K.In h) (G : h.Ns mainGlobals mg) (hfa : mg "law" = some (.ref fa))
    {od0 an0 od1 an1 od2 an2 od3 an3 od4 an4 od5 an5 od6 an6 od7 an7 od8 an8 od9 an9 od10 an10 od11 an11 od12 an12 od13 an13 od14 an14 od15 an15 od16 an16 od17 an17 od18 an18 od19 an19 od20 an20 od21 an21 od22 an22 od23 an23 od24 an24 od25 an25 od26 an26 od27 an27 od28 an28 od29 an29 od30 an30 od31 an31 od32 an32 od33 an33 od34 an34 od35 an35 : Option Addr} {sl0 sl1 sl2 sl3 sl4 sl5 sl6 sl7 sl8 sl9 sl10 sl11 sl12 sl13 sl14 sl15 sl16 sl17 sl18 sl19 sl20 sl21 sl22 sl23 sl24 sl25 sl26 sl27 sl28 sl29 sl30 sl31 sl32 sl33 sl34 sl35 : Array (Option Value)} {oc0 kV0 dc0 pm0 cd0 ct0 oc1 kV1 dc1 pm1 cd1 ct1 oc2 kV2 dc2 pm2 cd2 ct2 oc3 kV3 dc3 pm3 cd3 ct3 oc4 kV4 dc4 pm4 cd4 ct4 oc5 kV5 dc5 pm5 cd5 ct5 oc6 kV6 dc6 pm6 cd6 ct6 oc7 kV7 dc7 pm7 cd7 ct7 oc8 kV8 dc8 pm8 cd8 ct8 oc9 kV9 dc9 pm9 cd9 ct9 oc10 kV10 dc10 pm10 cd10 ct10 oc11 kV11 dc11 pm11 cd11 ct11 oc12 kV12 dc12 pm12 cd12 ct12 oc13 kV13 dc13 pm13 cd13 ct13 oc14 kV14 dc14 pm14 cd14 ct14 oc15 kV15 dc15 pm15 cd15 ct15 oc16 kV16 dc16 pm16 cd16 ct16 oc17 kV17 dc17 pm17 cd17 ct17 oc18 kV18 dc18 pm18 cd18 ct18 oc19 kV19 dc19 pm19 cd19 ct19 oc20 kV20 dc20 pm20 cd20 ct20 oc21 kV21 dc21 pm21 cd21 ct21 oc22 kV22 dc22 pm22 cd22 ct22 oc23 kV23 dc23 pm23 cd23 ct23 oc24 kV24 dc24 pm24 cd24 ct24 oc25 kV25 dc25 pm25 cd25 ct25 oc26 kV26 dc26 pm26 cd26 ct26 oc27 kV27 dc27 pm27 cd27 ct27 oc28 kV28 dc28 pm28 cd28 ct28 oc29 kV29 dc29 pm29 cd29 ct29 oc30 kV30 dc30 pm30 cd30 ct30 oc31 kV31 dc31 pm31 cd31 ct31 oc32 kV32 dc32 pm32 cd32 ct32 oc33 kV33 dc33 pm33 cd33 ct33 oc34 kV34 dc34 pm34 cd34 ct34 oc35 kV35 dc35 pm35 cd35 ct35 : Value}
    {tk0 tk1 tk2 : Tok}
    (a0 : PySem.W.nsIn K mainGlobals "must_be_crossing" = some (some (.ref f0))) (l0 : K.lookup f0 = some ⟨oc0, od0, .func (PySem.W.fnOf "must_be_crossing" "must_be_crossing" (defArgs s_must_be_crossing) (defBody s_must_be_crossing) (defScope s_must_be_crossing) .none kV0 dc0 pm0 an0 cd0 ct0), sl0⟩) (c0 : PySem.W.codeIn K cd0 "must_be_crossing" = true) (k0 : PySem.W.keepIn K (.ref f0) = true)
    (a1 : PySem.W.nsIn K mainGlobals "load_at" = some (some (.ref f1))) (l1 : K.lookup f1 = some ⟨oc1, od1, .func (PySem.W.fnOf "load_at" "load_at" (defArgs s_load_at) (defBody s_load_at) (defScope s_load_at) .none kV1 dc1 pm1 an1 cd1 ct1), sl1⟩) (c1 : PySem.W.codeIn K cd1 "load_at" = true) (k1 : PySem.W.keepIn K (.ref f1) = true)
    (a2 : PySem.W.nsIn K mainGlobals "cross_hues" = some (some (.ref f2))) (l2 : K.lookup f2 = some ⟨oc2, od2, .func (PySem.W.fnOf "cross_hues" "cross_hues" (defArgs s_cross_hues) (defBody s_cross_hues) (defScope s_cross_hues) .none kV2 dc2 pm2 an2 cd2 ct2), sl2⟩) (c2 : PySem.W.codeIn K cd2 "cross_hues" = true) (k2 : PySem.W.keepIn K (.ref f2) = true)
    (a3 : PySem.W.nsIn K mainGlobals "is_tree" = some (some (.ref f3))) (l3 : K.lookup f3 = some ⟨oc3, od3, .func (PySem.W.fnOf "is_tree" "is_tree" (defArgs s_is_tree) (defBody s_is_tree) (defScope s_is_tree) .none kV3 dc3 pm3 an3 cd3 ct3), sl3⟩) (c3 : PySem.W.codeIn K cd3 "is_tree" = true) (k3 : PySem.W.keepIn K (.ref f3) = true)
    (a4 : PySem.W.nsIn K mainGlobals "look_net" = some (some (.ref f4))) (l4 : K.lookup f4 = some ⟨oc4, od4, .func (PySem.W.fnOf "look_net" "look_net" (defArgs s_look_net) (defBody s_look_net) (defScope s_look_net) .none kV4 dc4 pm4 an4 cd4 ct4), sl4⟩) (c4 : PySem.W.codeIn K cd4 "look_net" = true) (k4 : PySem.W.keepIn K (.ref f4) = true)
    (a5 : PySem.W.nsIn K mainGlobals "must_be_kind" = some (some (.ref f5))) (l5 : K.lookup f5 = some ⟨oc5, od5, .func (PySem.W.fnOf "must_be_kind" "must_be_kind" (defArgs s_must_be_kind) (defBody s_must_be_kind) (defScope s_must_be_kind) .none kV5 dc5 pm5 an5 cd5 ct5), sl5⟩) (c5 : PySem.W.codeIn K cd5 "must_be_kind" = true) (k5 : PySem.W.keepIn K (.ref f5) = true)
    (a6 : PySem.W.nsIn K mainGlobals "places_of" = some (some (.ref f6))) (l6 : K.lookup f6 = some ⟨oc6, od6, .func (PySem.W.fnOf "places_of" "places_of" (defArgs s_places_of) (defBody s_places_of) (defScope s_places_of) .none kV6 dc6 pm6 an6 cd6 ct6), sl6⟩) (c6 : PySem.W.codeIn K cd6 "places_of" = true) (k6 : PySem.W.keepIn K (.ref f6) = true)
    (a7 : PySem.W.nsIn K mainGlobals "is_way" = some (some (.ref f7))) (l7 : K.lookup f7 = some ⟨oc7, od7, .func (PySem.W.fnOf "is_way" "is_way" (defArgs s_is_way) (defBody s_is_way) (defScope s_is_way) .none kV7 dc7 pm7 an7 cd7 ct7), sl7⟩) (c7 : PySem.W.codeIn K cd7 "is_way" = true) (k7 : PySem.W.keepIn K (.ref f7) = true)
    (a8 : PySem.W.nsIn K mainGlobals "ties_on" = some (some (.ref f8))) (l8 : K.lookup f8 = some ⟨oc8, od8, .func (PySem.W.fnOf "ties_on" "ties_on" (defArgs s_ties_on) (defBody s_ties_on) (defScope s_ties_on) .none kV8 dc8 pm8 an8 cd8 ct8), sl8⟩) (c8 : PySem.W.codeIn K cd8 "ties_on" = true) (k8 : PySem.W.keepIn K (.ref f8) = true)
    (a9 : PySem.W.nsIn K mainGlobals "must_be_ways" = some (some (.ref f9))) (l9 : K.lookup f9 = some ⟨oc9, od9, .func (PySem.W.fnOf "must_be_ways" "must_be_ways" (defArgs s_must_be_ways) (defBody s_must_be_ways) (defScope s_must_be_ways) .none kV9 dc9 pm9 an9 cd9 ct9), sl9⟩) (c9 : PySem.W.codeIn K cd9 "must_be_ways" = true) (k9 : PySem.W.keepIn K (.ref f9) = true)
    (a10 : PySem.W.nsIn K mainGlobals "ties_at" = some (some (.ref f10))) (l10 : K.lookup f10 = some ⟨oc10, od10, .func (PySem.W.fnOf "ties_at" "ties_at" (defArgs s_ties_at) (defBody s_ties_at) (defScope s_ties_at) .none kV10 dc10 pm10 an10 cd10 ct10), sl10⟩) (c10 : PySem.W.codeIn K cd10 "ties_at" = true) (k10 : PySem.W.keepIn K (.ref f10) = true)
    (a11 : PySem.W.nsIn K mainGlobals "crossing_of" = some (some (.ref f11))) (l11 : K.lookup f11 = some ⟨oc11, od11, .func (PySem.W.fnOf "crossing_of" "crossing_of" (defArgs s_crossing_of) (defBody s_crossing_of) (defScope s_crossing_of) .none kV11 dc11 pm11 an11 cd11 ct11), sl11⟩) (c11 : PySem.W.codeIn K cd11 "crossing_of" = true) (k11 : PySem.W.keepIn K (.ref f11) = true)
    (a12 : PySem.W.nsIn K mainGlobals "crossing_at" = some (some (.ref f12))) (l12 : K.lookup f12 = some ⟨oc12, od12, .func (PySem.W.fnOf "crossing_at" "crossing_at" (defArgs s_crossing_at) (defBody s_crossing_at) (defScope s_crossing_at) .none kV12 dc12 pm12 an12 cd12 ct12), sl12⟩) (c12 : PySem.W.codeIn K cd12 "crossing_at" = true) (k12 : PySem.W.keepIn K (.ref f12) = true)
    (a13 : PySem.W.nsIn K mainGlobals "put_together" = some (some (.ref f13))) (l13 : K.lookup f13 = some ⟨oc13, od13, .func (PySem.W.fnOf "put_together" "put_together" (defArgs s_put_together) (defBody s_put_together) (defScope s_put_together) .none kV13 dc13 pm13 an13 cd13 ct13), sl13⟩) (c13 : PySem.W.codeIn K cd13 "put_together" = true) (k13 : PySem.W.keepIn K (.ref f13) = true)
    (a14 : PySem.W.nsIn K mainGlobals "join_hues" = some (some (.ref f14))) (l14 : K.lookup f14 = some ⟨oc14, od14, .func (PySem.W.fnOf "join_hues" "join_hues" (defArgs s_join_hues) (defBody s_join_hues) (defScope s_join_hues) .none kV14 dc14 pm14 an14 cd14 ct14), sl14⟩) (c14 : PySem.W.codeIn K cd14 "join_hues" = true) (k14 : PySem.W.keepIn K (.ref f14) = true)
    (a15 : PySem.W.nsIn K mainGlobals "tree_hues" = some (some (.ref f15))) (l15 : K.lookup f15 = some ⟨oc15, od15, .func (PySem.W.fnOf "tree_hues" "tree_hues" (defArgs s_tree_hues) (defBody s_tree_hues) (defScope s_tree_hues) .none kV15 dc15 pm15 an15 cd15 ct15), sl15⟩) (c15 : PySem.W.codeIn K cd15 "tree_hues" = true) (k15 : PySem.W.keepIn K (.ref f15) = true)
    (a16 : PySem.W.nsIn K mainGlobals "_law_purse" = some (some (.ref f16))) (l16 : K.lookup f16 = some ⟨oc16, od16, .func (PySem.W.fnOf "_law_purse" "_law_purse" (defArgs s_law_purse) (defBody s_law_purse) (defScope s_law_purse) .none kV16 dc16 pm16 an16 cd16 ct16), sl16⟩) (c16 : PySem.W.codeIn K cd16 "_law_purse" = true) (k16 : PySem.W.keepIn K (.ref f16) = true)
    (a17 : PySem.W.nsIn K mainGlobals "_law_draw" = some (some (.ref f17))) (l17 : K.lookup f17 = some ⟨oc17, od17, .func (PySem.W.fnOf "_law_draw" "_law_draw" (defArgs s_law_draw) (defBody s_law_draw) (defScope s_law_draw) .none kV17 dc17 pm17 an17 cd17 ct17), sl17⟩) (c17 : PySem.W.codeIn K cd17 "_law_draw" = true) (k17 : PySem.W.keepIn K (.ref f17) = true)
    (a18 : PySem.W.nsIn K mainGlobals "_law_tree" = some (some (.ref f18))) (l18 : K.lookup f18 = some ⟨oc18, od18, .func (PySem.W.fnOf "_law_tree" "_law_tree" (defArgs s_law_tree) (defBody s_law_tree) (defScope s_law_tree) .none kV18 dc18 pm18 an18 cd18 ct18), sl18⟩) (c18 : PySem.W.codeIn K cd18 "_law_tree" = true) (k18 : PySem.W.keepIn K (.ref f18) = true)
    (a19 : PySem.W.nsIn K mainGlobals "_law_ways" = some (some (.ref f19))) (l19 : K.lookup f19 = some ⟨oc19, od19, .func (PySem.W.fnOf "_law_ways" "_law_ways" (defArgs s_law_ways) (defBody s_law_ways) (defScope s_law_ways) .none kV19 dc19 pm19 an19 cd19 ct19), sl19⟩) (c19 : PySem.W.codeIn K cd19 "_law_ways" = true) (k19 : PySem.W.keepIn K (.ref f19) = true)
    (a20 : PySem.W.nsIn K mainGlobals "_law_no_net" = some (some (.ref f20))) (l20 : K.lookup f20 = some ⟨oc20, od20, .func (PySem.W.fnOf "_law_no_net" "_law_no_net" (defArgs s_law_no_net) (defBody s_law_no_net) (defScope s_law_no_net) .none kV20 dc20 pm20 an20 cd20 ct20), sl20⟩) (c20 : PySem.W.codeIn K cd20 "_law_no_net" = true) (k20 : PySem.W.keepIn K (.ref f20) = true)
    (a21 : PySem.W.nsIn K mainGlobals "_law_no_ways" = some (some (.ref f21))) (l21 : K.lookup f21 = some ⟨oc21, od21, .func (PySem.W.fnOf "_law_no_ways" "_law_no_ways" (defArgs s_law_no_ways) (defBody s_law_no_ways) (defScope s_law_no_ways) .none kV21 dc21 pm21 an21 cd21 ct21), sl21⟩) (c21 : PySem.W.codeIn K cd21 "_law_no_ways" = true) (k21 : PySem.W.keepIn K (.ref f21) = true)
    (a22 : PySem.W.nsIn K mainGlobals "_law_first_none" = some (some (.ref f22))) (l22 : K.lookup f22 = some ⟨oc22, od22, .func (PySem.W.fnOf "_law_first_none" "_law_first_none" (defArgs s_law_first_none) (defBody s_law_first_none) (defScope s_law_first_none) .none kV22 dc22 pm22 an22 cd22 ct22), sl22⟩) (c22 : PySem.W.codeIn K cd22 "_law_first_none" = true) (k22 : PySem.W.keepIn K (.ref f22) = true)
    (a23 : PySem.W.nsIn K mainGlobals "_law_marks" = some (some (.ref f23))) (l23 : K.lookup f23 = some ⟨oc23, od23, .func (PySem.W.fnOf "_law_marks" "_law_marks" (defArgs s_law_marks) (defBody s_law_marks) (defScope s_law_marks) .none kV23 dc23 pm23 an23 cd23 ct23), sl23⟩) (c23 : PySem.W.codeIn K cd23 "_law_marks" = true) (k23 : PySem.W.keepIn K (.ref f23) = true)
    (a24 : PySem.W.nsIn K mainGlobals "_law_refused" = some (some (.ref f24))) (l24 : K.lookup f24 = some ⟨oc24, od24, .func (PySem.W.fnOf "_law_refused" "_law_refused" (defArgs s_law_refused) (defBody s_law_refused) (defScope s_law_refused) .none kV24 dc24 pm24 an24 cd24 ct24), sl24⟩) (c24 : PySem.W.codeIn K cd24 "_law_refused" = true) (k24 : PySem.W.keepIn K (.ref f24) = true)
    (a25 : PySem.W.nsIn K mainGlobals "_law_all" = some (some (.ref f25))) (l25 : K.lookup f25 = some ⟨oc25, od25, .func (PySem.W.fnOf "_law_all" "_law_all" (defArgs s_law_all) (defBody s_law_all) (defScope s_law_all) .none kV25 dc25 pm25 an25 cd25 ct25), sl25⟩) (c25 : PySem.W.codeIn K cd25 "_law_all" = true) (k25 : PySem.W.keepIn K (.ref f25) = true)
    (a26 : PySem.W.nsIn K mainGlobals "law" = some (some (.ref f26))) (l26 : K.lookup f26 = some ⟨oc26, od26, .func (PySem.W.fnOf "law" "law" (defArgs s_law) (defBody s_law) (defScope s_law) .none kV26 dc26 pm26 an26 cd26 ct26), sl26⟩) (c26 : PySem.W.codeIn K cd26 "law" = true) (k26 : PySem.W.keepIn K (.ref f26) = true)
    {cm27 : Addr} (a27 : PySem.W.nsIn K mainGlobals "Meeting" = some (some (.ref cm27))) (m27 : PySem.W.makesIn K cm27 = true) (i27 : PySem.W.findIn K (.ref cm27) "__init__" = some (some (.ref f27))) (n27 : PySem.W.isFn K (.ref f27) = true) (p27 : PySem.W.keepIn K (.ref cm27) = true) (l27 : K.lookup f27 = some ⟨oc27, od27, .func (PySem.W.fnOf "__init__" "Meeting.__init__" (defArgs s_Meeting_init) (defBody s_Meeting_init) (defScope s_Meeting_init) .none kV27 dc27 pm27 an27 cd27 ct27), sl27⟩) (c27 : PySem.W.codeIn K cd27 "Meeting.__init__" = true) (k27 : PySem.W.keepIn K (.ref f27) = true)
    (pg27 : PySem.W.plainGet K cm27 Str.empty = true) (hd27 : PySem.W.hasDictIn K cm27 = true) (po27 : PySem.W.plainOver K cm27 = true) (sb27 : PySem.W.findIn K (.ref cm27) "__setattr__" = some (some (.builtin "object.__setattr__")))
    (nn27_0 : PySem.W.findIn K (.ref cm27) "pairs" = some none)
    (nn27_1 : PySem.W.findIn K (.ref cm27) "most" = some none)
    (nn27_2 : PySem.W.findIn K (.ref cm27) "worn" = some none)
    (i28 : PySem.W.findIn K (.ref cm27) "by" = some (some (.ref f28))) (n28 : PySem.W.isFn K (.ref f28) = true) (l28 : K.lookup f28 = some ⟨oc28, od28, .func (PySem.W.fnOf "by" "Meeting.by" (defArgs s_Meeting_by) (defBody s_Meeting_by) (defScope s_Meeting_by) .none kV28 dc28 pm28 an28 cd28 ct28), sl28⟩) (c28 : PySem.W.codeIn K cd28 "Meeting.by" = true) (k28 : PySem.W.keepIn K (.ref f28) = true)
    (i29 : PySem.W.findIn K (.ref cm27) "free" = some (some (.ref f29))) (n29 : PySem.W.isFn K (.ref f29) = true) (l29 : K.lookup f29 = some ⟨oc29, od29, .func (PySem.W.fnOf "free" "Meeting.free" (defArgs s_Meeting_free) (defBody s_Meeting_free) (defScope s_Meeting_free) .none kV29 dc29 pm29 an29 cd29 ct29), sl29⟩) (c29 : PySem.W.codeIn K cd29 "Meeting.free" = true) (k29 : PySem.W.keepIn K (.ref f29) = true)
    (i30 : PySem.W.findIn K (.ref cm27) "chain" = some (some (.ref f30))) (n30 : PySem.W.isFn K (.ref f30) = true) (l30 : K.lookup f30 = some ⟨oc30, od30, .func (PySem.W.fnOf "chain" "Meeting.chain" (defArgs s_Meeting_chain) (defBody s_Meeting_chain) (defScope s_Meeting_chain) .none kV30 dc30 pm30 an30 cd30 ct30), sl30⟩) (c30 : PySem.W.codeIn K cd30 "Meeting.chain" = true) (k30 : PySem.W.keepIn K (.ref f30) = true)
    (i31 : PySem.W.findIn K (.ref cm27) "exchange" = some (some (.ref f31))) (n31 : PySem.W.isFn K (.ref f31) = true) (l31 : K.lookup f31 = some ⟨oc31, od31, .func (PySem.W.fnOf "exchange" "Meeting.exchange" (defArgs s_Meeting_exchange) (defBody s_Meeting_exchange) (defScope s_Meeting_exchange) .none kV31 dc31 pm31 an31 cd31 ct31), sl31⟩) (c31 : PySem.W.codeIn K cd31 "Meeting.exchange" = true) (k31 : PySem.W.keepIn K (.ref f31) = true)
    (i32 : PySem.W.findIn K (.ref cm27) "direct" = some (some (.ref f32))) (n32 : PySem.W.isFn K (.ref f32) = true) (l32 : K.lookup f32 = some ⟨oc32, od32, .func (PySem.W.fnOf "direct" "Meeting.direct" (defArgs s_Meeting_direct) (defBody s_Meeting_direct) (defScope s_Meeting_direct) .none kV32 dc32 pm32 an32 cd32 ct32), sl32⟩) (c32 : PySem.W.codeIn K cd32 "Meeting.direct" = true) (k32 : PySem.W.keepIn K (.ref f32) = true)
    (i33 : PySem.W.findIn K (.ref cm27) "round_about" = some (some (.ref f33))) (n33 : PySem.W.isFn K (.ref f33) = true) (l33 : K.lookup f33 = some ⟨oc33, od33, .func (PySem.W.fnOf "round_about" "Meeting.round_about" (defArgs s_Meeting_round_about) (defBody s_Meeting_round_about) (defScope s_Meeting_round_about) .none kV33 dc33 pm33 an33 cd33 ct33), sl33⟩) (c33 : PySem.W.codeIn K cd33 "Meeting.round_about" = true) (k33 : PySem.W.keepIn K (.ref f33) = true)
    (i34 : PySem.W.findIn K (.ref cm27) "freed" = some (some (.ref f34))) (n34 : PySem.W.isFn K (.ref f34) = true) (l34 : K.lookup f34 = some ⟨oc34, od34, .func (PySem.W.fnOf "freed" "Meeting.freed" (defArgs s_Meeting_freed) (defBody s_Meeting_freed) (defScope s_Meeting_freed) .none kV34 dc34 pm34 an34 cd34 ct34), sl34⟩) (c34 : PySem.W.codeIn K cd34 "Meeting.freed" = true) (k34 : PySem.W.keepIn K (.ref f34) = true)
    (i35 : PySem.W.findIn K (.ref cm27) "put" = some (some (.ref f35))) (n35 : PySem.W.isFn K (.ref f35) = true) (l35 : K.lookup f35 = some ⟨oc35, od35, .func (PySem.W.fnOf "put" "Meeting.put" (defArgs s_Meeting_put) (defBody s_Meeting_put) (defScope s_Meeting_put) .none kV35 dc35 pm35 an35 cd35 ct35), sl35⟩) (c35 : PySem.W.codeIn K cd35 "Meeting.put" = true) (k35 : PySem.W.keepIn K (.ref f35) = true)
    (e0 : PySem.W.nsIn K mainGlobals "MOST_TIES" = some (some (.int 60 tk0)))
    (e1 : PySem.W.nsIn K mainGlobals "MOST_PAIRS" = some (some (.int 60 tk1)))
    (e2 : PySem.W.nsIn K mainGlobals "MOST_PLACES" = some (some (.int 60 tk2)))
    (z0 : PySem.W.nsIn K mainGlobals "ValueError" = some none)
    (z1 : PySem.W.nsIn K mainGlobals "int" = some none)
    (z2 : PySem.W.nsIn K mainGlobals "isinstance" = some none)
    (z3 : PySem.W.nsIn K mainGlobals "len" = some none)
    (z4 : PySem.W.nsIn K mainGlobals "list" = some none)
    (z5 : PySem.W.nsIn K mainGlobals "max" = some none)
    (z6 : PySem.W.nsIn K mainGlobals "min" = some none)
    (z7 : PySem.W.nsIn K mainGlobals "range" = some none)
    (z8 : PySem.W.nsIn K mainGlobals "sorted" = some none)
    (z9 : PySem.W.nsIn K mainGlobals "sum" = some none)
    (z10 : PySem.W.nsIn K mainGlobals "zip" = some none)
    {cc0 cc1 cc2 cc3 cc4 cc5 cc6 cc7 cc8 cc9 cc10 cc11 cc12 cc13 cc14 : Addr}
    (kk0 : PySem.W.nsIn K mainGlobals "TieError" = some (some (.ref cc0))) (xx0 : exkB K cc0 = true) (tt0 : PySem.W.typeIn K (.ref cc0) = some (.type "type"))
    (kk1 : PySem.W.nsIn K mainGlobals "NoNet" = some (some (.ref cc1))) (xx1 : exkB K cc1 = true) (tt1 : PySem.W.typeIn K (.ref cc1) = some (.type "type"))
    (kk2 : PySem.W.nsIn K mainGlobals "OtherNet" = some (some (.ref cc2))) (xx2 : exkB K cc2 = true) (tt2 : PySem.W.typeIn K (.ref cc2) = some (.type "type"))
    (kk3 : PySem.W.nsIn K mainGlobals "NoWay" = some (some (.ref cc3))) (xx3 : exkB K cc3 = true) (tt3 : PySem.W.typeIn K (.ref cc3) = some (.type "type"))
    (kk4 : PySem.W.nsIn K mainGlobals "TooMany" = some (some (.ref cc4))) (xx4 : exkB K cc4 = true) (tt4 : PySem.W.typeIn K (.ref cc4) = some (.type "type"))
    (kk5 : PySem.W.nsIn K mainGlobals "NoHues" = some (some (.ref cc5))) (xx5 : exkB K cc5 = true) (tt5 : PySem.W.typeIn K (.ref cc5) = some (.type "type"))
    (kk6 : PySem.W.nsIn K mainGlobals "NoCrossing" = some (some (.ref cc6))) (xx6 : exkB K cc6 = true) (tt6 : PySem.W.typeIn K (.ref cc6) = some (.type "type"))
    (kk7 : PySem.W.nsIn K mainGlobals "NoLot" = some (some (.ref cc7))) (xx7 : exkB K cc7 = true) (tt7 : PySem.W.typeIn K (.ref cc7) = some (.type "type"))
    (kk8 : PySem.W.nsIn K mainGlobals "NoPlace" = some (some (.ref cc8))) (xx8 : exkB K cc8 = true) (tt8 : PySem.W.typeIn K (.ref cc8) = some (.type "type"))
    (kk9 : PySem.W.nsIn K mainGlobals "NoNumber" = some (some (.ref cc9))) (xx9 : exkB K cc9 = true) (tt9 : PySem.W.typeIn K (.ref cc9) = some (.type "type"))
    (kk10 : PySem.W.nsIn K mainGlobals "NoTurning" = some (some (.ref cc10))) (xx10 : exkB K cc10 = true) (tt10 : PySem.W.typeIn K (.ref cc10) = some (.type "type"))
    (kk11 : PySem.W.nsIn K mainGlobals "NoTie" = some (some (.ref cc11))) (xx11 : exkB K cc11 = true) (tt11 : PySem.W.typeIn K (.ref cc11) = some (.type "type"))
    (kk12 : PySem.W.nsIn K mainGlobals "NoText" = some (some (.ref cc12))) (xx12 : exkB K cc12 = true) (tt12 : PySem.W.typeIn K (.ref cc12) = some (.type "type"))
    (kk13 : PySem.W.nsIn K mainGlobals "NoRow" = some (some (.ref cc13))) (xx13 : exkB K cc13 = true) (tt13 : PySem.W.typeIn K (.ref cc13) = some (.type "type"))
    (kk14 : PySem.W.nsIn K mainGlobals "NoName" = some (some (.ref cc14))) (xx14 : exkB K cc14 = true) (tt14 : PySem.W.typeIn K (.ref cc14) = some (.type "type"))
    {nm3 q3 : Str} {N3 : Addr} {bs3 : List Value} {sn3 : List Str} {su3 : List Value} {ab3 : Bool} {co3 : Option Bool} {dd3 : Option Addr} {ma3 mb3 mc3 md3 me3 : Option Value} {fi3 : Addr} {odi3 ani3 : Option Addr} {sli3 : Array (Option Value)} {oci3 kVi3 dci3 pmi3 cdi3 cti3 : Value}
    (la3 : K.lookup cc3 = some (excClassObj nm3 q3 cc3 N3 bs3 [.ref cc0, .type "ValueError", .type "Exception", .type "BaseException", .type "object"] true sn3 su3 ab3 co3 dd3 ma3 mb3 mc3 md3 me3 "ValueError.__new__"))
    (sa3 : PySem.W.findIn K (.ref cc3) "__setattr__" = some (some (.builtin "object.__setattr__"))) (ee3 : PySem.W.subIn K (.ref cc3) (.type "BaseException") = some true) (ke3 : PySem.W.keepIn K (.ref cc3) = true)
    (ai3 : PySem.W.findIn K (.ref cc3) "__init__" = some (some (.ref fi3))) (ti3 : PySem.W.typeIn K (.ref fi3) = some (.type "function")) (li3 : K.lookup fi3 = some ⟨oci3, odi3, .func (PySem.W.fnOf "__init__" "NoWay.__init__" (defArgs s_init_NoWay) (defBody s_init_NoWay) (defScope s_init_NoWay) .none kVi3 dci3 pmi3 ani3 cdi3 cti3), sli3⟩) (ci3 : PySem.W.codeIn K cdi3 "NoWay.__init__" = true) (ki3 : PySem.W.keepIn K (.ref fi3) = true) (nf3 : PySem.W.findIn K (.ref cc3) "at" = some none)
    {nm5 q5 : Str} {N5 : Addr} {bs5 : List Value} {sn5 : List Str} {su5 : List Value} {ab5 : Bool} {co5 : Option Bool} {dd5 : Option Addr} {ma5 mb5 mc5 md5 me5 : Option Value} {fi5 : Addr} {odi5 ani5 : Option Addr} {sli5 : Array (Option Value)} {oci5 kVi5 dci5 pmi5 cdi5 cti5 : Value}
    (la5 : K.lookup cc5 = some (excClassObj nm5 q5 cc5 N5 bs5 [.ref cc0, .type "ValueError", .type "Exception", .type "BaseException", .type "object"] true sn5 su5 ab5 co5 dd5 ma5 mb5 mc5 md5 me5 "ValueError.__new__"))
    (sa5 : PySem.W.findIn K (.ref cc5) "__setattr__" = some (some (.builtin "object.__setattr__"))) (ee5 : PySem.W.subIn K (.ref cc5) (.type "BaseException") = some true) (ke5 : PySem.W.keepIn K (.ref cc5) = true)
    (ai5 : PySem.W.findIn K (.ref cc5) "__init__" = some (some (.ref fi5))) (ti5 : PySem.W.typeIn K (.ref fi5) = some (.type "function")) (li5 : K.lookup fi5 = some ⟨oci5, odi5, .func (PySem.W.fnOf "__init__" "NoHues.__init__" (defArgs s_init_NoHues) (defBody s_init_NoHues) (defScope s_init_NoHues) .none kVi5 dci5 pmi5 ani5 cdi5 cti5), sli5⟩) (ci5 : PySem.W.codeIn K cdi5 "NoHues.__init__" = true) (ki5 : PySem.W.keepIn K (.ref fi5) = true) (nf5 : PySem.W.findIn K (.ref cc5) "place" = some none)
    {nm12 q12 : Str} {N12 : Addr} {bs12 : List Value} {sn12 : List Str} {su12 : List Value} {ab12 : Bool} {co12 : Option Bool} {dd12 : Option Addr} {ma12 mb12 mc12 md12 me12 : Option Value} {fi12 : Addr} {odi12 ani12 : Option Addr} {sli12 : Array (Option Value)} {oci12 kVi12 dci12 pmi12 cdi12 cti12 : Value}
    (la12 : K.lookup cc12 = some (excClassObj nm12 q12 cc12 N12 bs12 [.ref cc0, .type "ValueError", .type "Exception", .type "BaseException", .type "object"] true sn12 su12 ab12 co12 dd12 ma12 mb12 mc12 md12 me12 "ValueError.__new__"))
    (sa12 : PySem.W.findIn K (.ref cc12) "__setattr__" = some (some (.builtin "object.__setattr__"))) (ee12 : PySem.W.subIn K (.ref cc12) (.type "BaseException") = some true) (ke12 : PySem.W.keepIn K (.ref cc12) = true)
    (ai12 : PySem.W.findIn K (.ref cc12) "__init__" = some (some (.ref fi12))) (ti12 : PySem.W.typeIn K (.ref fi12) = some (.type "function")) (li12 : K.lookup fi12 = some ⟨oci12, odi12, .func (PySem.W.fnOf "__init__" "NoText.__init__" (defArgs s_init_NoText) (defBody s_init_NoText) (defScope s_init_NoText) .none kVi12 dci12 pmi12 ani12 cdi12 cti12), sli12⟩) (ci12 : PySem.W.codeIn K cdi12 "NoText.__init__" = true) (ki12 : PySem.W.keepIn K (.ref fi12) = true) (nf12 : PySem.W.findIn K (.ref cc12) "row" = some none)
    (rr0 : PySem.W.readsIn K cc0 (.type "type") = true) (rr1 : PySem.W.specialIn K (.ref cc0) "__getattribute__" = some (some (.builtin "type.__getattribute__"))) (rr2 : PySem.W.findCls K (.ref cc0) (.type "type") "__init__" = some (.val (.builtin "ValueError.__init__")))
    (ex1 : PySem.W.excIn K cc1 [.type "ValueError", .type "Exception", .type "BaseException", .type "object"] "ValueError.__new__" = true) (pp1 : PySem.W.keepIn K (.ref cc1) = true)
    (uu1 : PySem.W.subIn K (.ref cc1) (.ref cc0) = some true)
    (qq1_0 : PySem.W.kitOne K (.ref cc1) (.ref cc6) = some false)
    (qq1_1 : PySem.W.kitOne K (.ref cc1) (.ref cc5) = some false)
    (qq1_2 : PySem.W.kitOne K (.ref cc1) (.ref cc7) = some false)
    (qq1_3 : PySem.W.kitOne K (.ref cc1) (.ref cc14) = some false)
    (qq1_4 : PySem.W.kitOne K (.ref cc1) (.ref cc1) = some true)
    (qq1_5 : PySem.W.kitOne K (.ref cc1) (.ref cc9) = some false)
    (qq1_6 : PySem.W.kitOne K (.ref cc1) (.ref cc8) = some false)
    (qq1_7 : PySem.W.kitOne K (.ref cc1) (.ref cc13) = some false)
    (qq1_8 : PySem.W.kitOne K (.ref cc1) (.ref cc12) = some false)
    (qq1_9 : PySem.W.kitOne K (.ref cc1) (.ref cc11) = some false)
    (qq1_10 : PySem.W.kitOne K (.ref cc1) (.ref cc10) = some false)
    (qq1_11 : PySem.W.kitOne K (.ref cc1) (.ref cc3) = some false)
    (qq1_12 : PySem.W.kitOne K (.ref cc1) (.ref cc2) = some false)
    (qq1_13 : PySem.W.kitOne K (.ref cc1) (.ref cc4) = some false)
    (qq1_14 : PySem.W.kitOne K (.ref cc1) (.type "ValueError") = some true)
    (ex8 : PySem.W.excIn K cc8 [.type "ValueError", .type "Exception", .type "BaseException", .type "object"] "ValueError.__new__" = true) (pp8 : PySem.W.keepIn K (.ref cc8) = true)
    (uu8 : PySem.W.subIn K (.ref cc8) (.ref cc0) = some true)
    (qq8_0 : PySem.W.kitOne K (.ref cc8) (.ref cc6) = some false)
    (qq8_1 : PySem.W.kitOne K (.ref cc8) (.ref cc5) = some false)
    (qq8_2 : PySem.W.kitOne K (.ref cc8) (.ref cc7) = some false)
    (qq8_3 : PySem.W.kitOne K (.ref cc8) (.ref cc14) = some false)
    (qq8_4 : PySem.W.kitOne K (.ref cc8) (.ref cc1) = some false)
    (qq8_5 : PySem.W.kitOne K (.ref cc8) (.ref cc9) = some false)
    (qq8_6 : PySem.W.kitOne K (.ref cc8) (.ref cc8) = some true)
    (qq8_7 : PySem.W.kitOne K (.ref cc8) (.ref cc13) = some false)
    (qq8_8 : PySem.W.kitOne K (.ref cc8) (.ref cc12) = some false)
    (qq8_9 : PySem.W.kitOne K (.ref cc8) (.ref cc11) = some false)
    (qq8_10 : PySem.W.kitOne K (.ref cc8) (.ref cc10) = some false)
    (qq8_11 : PySem.W.kitOne K (.ref cc8) (.ref cc3) = some false)
    (qq8_12 : PySem.W.kitOne K (.ref cc8) (.ref cc2) = some false)
    (qq8_13 : PySem.W.kitOne K (.ref cc8) (.ref cc4) = some false)
    (qq8_14 : PySem.W.kitOne K (.ref cc8) (.type "ValueError") = some true)
    (uu3 : PySem.W.subIn K (.ref cc3) (.ref cc0) = some true)
    (qq3_0 : PySem.W.kitOne K (.ref cc3) (.ref cc6) = some false)
    (qq3_1 : PySem.W.kitOne K (.ref cc3) (.ref cc5) = some false)
    (qq3_2 : PySem.W.kitOne K (.ref cc3) (.ref cc7) = some false)
    (qq3_3 : PySem.W.kitOne K (.ref cc3) (.ref cc14) = some false)
    (qq3_4 : PySem.W.kitOne K (.ref cc3) (.ref cc1) = some false)
    (qq3_5 : PySem.W.kitOne K (.ref cc3) (.ref cc9) = some false)
    (qq3_6 : PySem.W.kitOne K (.ref cc3) (.ref cc8) = some false)
    (qq3_7 : PySem.W.kitOne K (.ref cc3) (.ref cc13) = some false)
    (qq3_8 : PySem.W.kitOne K (.ref cc3) (.ref cc12) = some false)
    (qq3_9 : PySem.W.kitOne K (.ref cc3) (.ref cc11) = some false)
    (qq3_10 : PySem.W.kitOne K (.ref cc3) (.ref cc10) = some false)
    (qq3_11 : PySem.W.kitOne K (.ref cc3) (.ref cc3) = some true)
    (qq3_12 : PySem.W.kitOne K (.ref cc3) (.ref cc2) = some false)
    (qq3_13 : PySem.W.kitOne K (.ref cc3) (.ref cc4) = some false)
    (qq3_14 : PySem.W.kitOne K (.ref cc3) (.type "ValueError") = some true)
    (ex2 : PySem.W.excIn K cc2 [.type "ValueError", .type "Exception", .type "BaseException", .type "object"] "ValueError.__new__" = true) (pp2 : PySem.W.keepIn K (.ref cc2) = true)
    (uu2 : PySem.W.subIn K (.ref cc2) (.ref cc0) = some true)
    (qq2_0 : PySem.W.kitOne K (.ref cc2) (.ref cc6) = some false)
    (qq2_1 : PySem.W.kitOne K (.ref cc2) (.ref cc5) = some false)
    (qq2_2 : PySem.W.kitOne K (.ref cc2) (.ref cc7) = some false)
    (qq2_3 : PySem.W.kitOne K (.ref cc2) (.ref cc14) = some false)
    (qq2_4 : PySem.W.kitOne K (.ref cc2) (.ref cc1) = some false)
    (qq2_5 : PySem.W.kitOne K (.ref cc2) (.ref cc9) = some false)
    (qq2_6 : PySem.W.kitOne K (.ref cc2) (.ref cc8) = some false)
    (qq2_7 : PySem.W.kitOne K (.ref cc2) (.ref cc13) = some false)
    (qq2_8 : PySem.W.kitOne K (.ref cc2) (.ref cc12) = some false)
    (qq2_9 : PySem.W.kitOne K (.ref cc2) (.ref cc11) = some false)
    (qq2_10 : PySem.W.kitOne K (.ref cc2) (.ref cc10) = some false)
    (qq2_11 : PySem.W.kitOne K (.ref cc2) (.ref cc3) = some false)
    (qq2_12 : PySem.W.kitOne K (.ref cc2) (.ref cc2) = some true)
    (qq2_13 : PySem.W.kitOne K (.ref cc2) (.ref cc4) = some false)
    (qq2_14 : PySem.W.kitOne K (.ref cc2) (.type "ValueError") = some true)
    : ∃ fd : FuncData, (∀ (s : Shared) (v : Value), BindsTo s fd ⟨[v], []⟩ [("_law_script", v)]) ∧ ∀ base : Heap, K.In base → base.Ns mainGlobals mg → FnOk l.prog w K mg base CX0 10 fa fd ["_law_script"] (sp_law K) := by
  have e := hfa.symm.trans (PySem.W.mg_of X G a26)
  cases e
  have F0 := fun_mk (st := s_must_be_crossing) l0 c0 k0
  have b0 := F0.binds (ps := ["crossing"]) fun _ _ _ _ _ _ us hl => match us, hl with | [_], _ => rfl
  have F1 := fun_mk (st := s_load_at) l1 c1 k1
  have b1 := F1.binds (ps := ["crossing"]) fun _ _ _ _ _ _ us hl => match us, hl with | [_], _ => rfl
  have F2 := fun_mk (st := s_cross_hues) l2 c2 k2
  have b2 := F2.binds (ps := ["crossing"]) fun _ _ _ _ _ _ us hl => match us, hl with | [_], _ => rfl
  have F3 := fun_mk (st := s_is_tree) l3 c3 k3
  have b3 := F3.binds (ps := ["parents"]) fun _ _ _ _ _ _ us hl => match us, hl with | [_], _ => rfl
  have F4 := fun_mk (st := s_look_net) l4 c4 k4
  have b4 := F4.binds (ps := ["net"]) fun _ _ _ _ _ _ us hl => match us, hl with | [_], _ => rfl
  have F5 := fun_mk (st := s_must_be_kind) l5 c5 k5
  have b5 := F5.binds (ps := ["net", "kind"]) fun _ _ _ _ _ _ us hl => match us, hl with | [_, _], _ => rfl
  have F6 := fun_mk (st := s_places_of) l6 c6 k6
  have b6 := F6.binds (ps := ["net"]) fun _ _ _ _ _ _ us hl => match us, hl with | [_], _ => rfl
  have F7 := fun_mk (st := s_is_way) l7 c7 k7
  have b7 := F7.binds (ps := ["net", "way"]) fun _ _ _ _ _ _ us hl => match us, hl with | [_, _], _ => rfl
  have F8 := fun_mk (st := s_ties_on) l8 c8 k8
  have b8 := F8.binds (ps := ["net", "way"]) fun _ _ _ _ _ _ us hl => match us, hl with | [_, _], _ => rfl
  have F9 := fun_mk (st := s_must_be_ways) l9 c9 k9
  have b9 := F9.binds (ps := ["net", "ways"]) fun _ _ _ _ _ _ us hl => match us, hl with | [_, _], _ => rfl
  have F10 := fun_mk (st := s_ties_at) l10 c10 k10
  have b10 := F10.binds (ps := ["net", "place"]) fun _ _ _ _ _ _ us hl => match us, hl with | [_, _], _ => rfl
  have F11 := fun_mk (st := s_crossing_of) l11 c11 k11
  have b11 := F11.binds (ps := ["net", "ways", "place"]) fun _ _ _ _ _ _ us hl => match us, hl with | [_, _, _], _ => rfl
  have F12 := fun_mk (st := s_crossing_at) l12 c12 k12
  have b12 := F12.binds (ps := ["net", "ways", "place"]) fun _ _ _ _ _ _ us hl => match us, hl with | [_, _, _], _ => rfl
  have F13 := fun_mk (st := s_put_together) l13 c13 k13
  have b13 := F13.binds (ps := ["net", "ways", "lists"]) fun _ _ _ _ _ _ us hl => match us, hl with | [_, _, _], _ => rfl
  have F14 := fun_mk (st := s_join_hues) l14 c14 k14
  have b14 := F14.binds (ps := ["net", "ways", "lists"]) fun _ _ _ _ _ _ us hl => match us, hl with | [_, _, _], _ => rfl
  have F15 := fun_mk (st := s_tree_hues) l15 c15 k15
  have b15 := F15.binds (ps := ["net", "ways"]) fun _ _ _ _ _ _ us hl => match us, hl with | [_, _], _ => rfl
  have F16 := fun_mk (st := s_law_purse) l16 c16 k16
  have b16 := F16.binds (ps := ["_law_script"]) fun _ _ _ _ _ _ us hl => match us, hl with | [_], _ => rfl
  have F17 := fun_mk (st := s_law_draw) l17 c17 k17
  have b17 := F17.binds (ps := ["_law_purse_here", "_law_out_of"]) fun _ _ _ _ _ _ us hl => match us, hl with | [_, _], _ => rfl
  have F18 := fun_mk (st := s_law_tree) l18 c18 k18
  have b18 := F18.binds (ps := ["_law_purse_here"]) fun _ _ _ _ _ _ us hl => match us, hl with | [_], _ => rfl
  have F19 := fun_mk (st := s_law_ways) l19 c19 k19
  have b19 := F19.binds (ps := ["_law_purse_here", "_law_places", "_law_most"]) fun _ _ _ _ _ _ us hl => match us, hl with | [_, _, _], _ => rfl
  have F20 := fun_mk (st := s_law_no_net) l20 c20 k20
  have b20 := F20.binds (ps := ["_law_purse_here", "_law_parents"]) fun _ _ _ _ _ _ us hl => match us, hl with | [_, _], _ => rfl
  have F21 := fun_mk (st := s_law_no_ways) l21 c21 k21
  have b21 := F21.binds (ps := ["_law_purse_here", "_law_ways_here", "_law_places"]) fun _ _ _ _ _ _ us hl => match us, hl with | [_, _, _], _ => rfl
  have F22 := fun_mk (st := s_law_first_none) l22 c22 k22
  have b22 := F22.binds (ps := ["_law_ways_here", "_law_places"]) fun _ _ _ _ _ _ us hl => match us, hl with | [_, _], _ => rfl
  have F23 := fun_mk (st := s_law_marks) l23 c23 k23
  have b23 := F23.binds (ps := ["_law_caught"]) fun _ _ _ _ _ _ us hl => match us, hl with | [_], _ => rfl
  have F24 := fun_mk (st := s_law_refused) l24 c24 k24
  have b24 := F24.binds (ps := ["_law_which", "_law_net", "_law_ways_here", "_law_place"]) fun _ _ _ _ _ _ us hl => match us, hl with | [_, _, _, _], _ => rfl
  have F25 := fun_mk (st := s_law_all) l25 c25 k25
  have b25 := F25.binds (ps := ["_law_net", "_law_ways_here", "_law_place", "_law_due"]) fun _ _ _ _ _ _ us hl => match us, hl with | [_, _, _, _], _ => rfl
  have F26 := fun_mk (st := s_law) l26 c26 k26
  have b26 := F26.binds (ps := ["_law_script"]) fun _ _ _ _ _ _ us hl => match us, hl with | [_], _ => rfl
  have F27 := fun_mk (st := s_Meeting_init) l27 c27 k27
  have b27 := F27.binds (ps := ["self", "pairs", "most"]) fun _ _ _ _ _ _ us hl => match us, hl with | [_, _, _], _ => rfl
  have F28 := fun_mk (st := s_Meeting_by) l28 c28 k28
  have b28 := F28.binds (ps := ["self", "tie", "hue"]) fun _ _ _ _ _ _ us hl => match us, hl with | [_, _, _], _ => rfl
  have F29 := fun_mk (st := s_Meeting_free) l29 c29 k29
  have b29 := F29.binds (ps := ["self", "tie"]) fun _ _ _ _ _ _ us hl => match us, hl with | [_, _], _ => rfl
  have F30 := fun_mk (st := s_Meeting_chain) l30 c30 k30
  have b30 := F30.binds (ps := ["self", "tie", "hue", "other"]) fun _ _ _ _ _ _ us hl => match us, hl with | [_, _, _, _], _ => rfl
  have F31 := fun_mk (st := s_Meeting_exchange) l31 c31 k31
  have b31 := F31.binds (ps := ["self", "some", "hue", "other"]) fun _ _ _ _ _ _ us hl => match us, hl with | [_, _, _, _], _ => rfl
  have F32 := fun_mk (st := s_Meeting_direct) l32 c32 k32
  have b32 := F32.binds (ps := ["self", "k"]) fun _ _ _ _ _ _ us hl => match us, hl with | [_, _], _ => rfl
  have F33 := fun_mk (st := s_Meeting_round_about) l33 c33 k33
  have b33 := F33.binds (ps := ["self", "k"]) fun _ _ _ _ _ _ us hl => match us, hl with | [_, _], _ => rfl
  have F34 := fun_mk (st := s_Meeting_freed) l34 c34 k34
  have b34 := F34.binds (ps := ["self", "s", "t", "z"]) fun _ _ _ _ _ _ us hl => match us, hl with | [_, _, _, _], _ => rfl
  have F35 := fun_mk (st := s_Meeting_put) l35 c35 k35
  have b35 := F35.binds (ps := ["self", "k"]) fun _ _ _ _ _ _ us hl => match us, hl with | [_, _], _ => rfl
  have Fi3 := fun_mk (st := s_init_NoWay) li3 ci3 ki3
  have bi3 := Fi3.binds (ps := ["self", "at"]) fun _ _ _ _ _ _ us hl => match us, hl with | [_, _], _ => rfl
  have Fi5 := fun_mk (st := s_init_NoHues) li5 ci5 ki5
  have bi5 := Fi5.binds (ps := ["self", "place"]) fun _ _ _ _ _ _ us hl => match us, hl with | [_, _], _ => rfl
  have Fi12 := fun_mk (st := s_init_NoText) li12 ci12 ki12
  have bi12 := Fi12.binds (ps := ["self", "row"]) fun _ _ _ _ _ _ us hl => match us, hl with | [_, _], _ => rfl
  have T : Txt K mg ⟨cc0, cc1, cc2, cc3, cc4, cc5, cc6, cc7, cc8, cc9, cc10, cc11, cc12, cc13, cc14, fi3, _, fi5, _, fi12, _, cm27, f0, _, f1, _, f2, _, f3, _, f4, _, f5, _, f6, _, f7, _, f8, _, f9, _, f10, _, f11, _, f12, _, f13, _, f14, _, f15, _, f16, _, f17, _, f18, _, f19, _, f20, _, f21, _, f22, _, f23, _, f24, _, f25, _, fa, _, f27, _, f28, _, f29, _, f30, _, f31, _, f32, _, f33, _, f34, _, f35, _⟩ :=
    ⟨PySem.W.mg_of X G a0, F0, b0, PySem.W.mg_of X G a1, F1, b1, PySem.W.mg_of X G a2, F2, b2, PySem.W.mg_of X G a3, F3, b3, PySem.W.mg_of X G a4, F4, b4, PySem.W.mg_of X G a5, F5, b5, PySem.W.mg_of X G a6, F6, b6, PySem.W.mg_of X G a7, F7, b7, PySem.W.mg_of X G a8, F8, b8, PySem.W.mg_of X G a9, F9, b9, PySem.W.mg_of X G a10, F10, b10, PySem.W.mg_of X G a11, F11, b11, PySem.W.mg_of X G a12, F12, b12, PySem.W.mg_of X G a13, F13, b13, PySem.W.mg_of X G a14, F14, b14, PySem.W.mg_of X G a15, F15, b15, PySem.W.mg_of X G a16, F16, b16, PySem.W.mg_of X G a17, F17, b17, PySem.W.mg_of X G a18, F18, b18, PySem.W.mg_of X G a19, F19, b19, PySem.W.mg_of X G a20, F20, b20, PySem.W.mg_of X G a21, F21, b21, PySem.W.mg_of X G a22, F22, b22, PySem.W.mg_of X G a23, F23, b23, PySem.W.mg_of X G a24, F24, b24, PySem.W.mg_of X G a25, F25, b25, PySem.W.mg_of X G a26, F26, b26, PySem.W.mg_of X G a27, ⟨m27, i27, n27, p27⟩, F27, ⟨pg27, hd27, po27, sb27⟩, nn27_0, nn27_1, nn27_2, b27, ⟨i28, n28, k28⟩, F28, b28, ⟨i29, n29, k29⟩, F29, b29, ⟨i30, n30, k30⟩, F30, b30, ⟨i31, n31, k31⟩, F31, b31, ⟨i32, n32, k32⟩, F32, b32, ⟨i33, n33, k33⟩, F33, b33, ⟨i34, n34, k34⟩, F34, b34, ⟨i35, n35, k35⟩, F35, b35, tok_mk (PySem.W.mg_of X G e0), tok_mk (PySem.W.mg_of X G e1), tok_mk (PySem.W.mg_of X G e2), PySem.W.mg_none_of X G z0, PySem.W.mg_none_of X G z1, PySem.W.mg_none_of X G z2, PySem.W.mg_none_of X G z3, PySem.W.mg_none_of X G z4, PySem.W.mg_none_of X G z5, PySem.W.mg_none_of X G z6, PySem.W.mg_none_of X G z7, PySem.W.mg_none_of X G z8, PySem.W.mg_none_of X G z9, PySem.W.mg_none_of X G z10, PySem.W.mg_of X G kk0, exkB_ok xx0, tt0, PySem.W.mg_of X G kk1, exkB_ok xx1, tt1, PySem.W.mg_of X G kk2, exkB_ok xx2, tt2, PySem.W.mg_of X G kk3, exkB_ok xx3, tt3, PySem.W.mg_of X G kk4, exkB_ok xx4, tt4, PySem.W.mg_of X G kk5, exkB_ok xx5, tt5, PySem.W.mg_of X G kk6, exkB_ok xx6, tt6, PySem.W.mg_of X G kk7, exkB_ok xx7, tt7, PySem.W.mg_of X G kk8, exkB_ok xx8, tt8, PySem.W.mg_of X G kk9, exkB_ok xx9, tt9, PySem.W.mg_of X G kk10, exkB_ok xx10, tt10, PySem.W.mg_of X G kk11, exkB_ok xx11, tt11, PySem.W.mg_of X G kk12, exkB_ok xx12, tt12, PySem.W.mg_of X G kk13, exkB_ok xx13, tt13, PySem.W.mg_of X G kk14, exkB_ok xx14, tt14, ⟨⟨nm3, q3, N3, bs3, _, sn3, su3, ab3, co3, dd3, ma3, mb3, mc3, md3, me3, la3, rfl⟩, sa3, ee3, tt3, ke3⟩, ai3, ti3, Fi3, bi3, nf3, ⟨⟨nm5, q5, N5, bs5, _, sn5, su5, ab5, co5, dd5, ma5, mb5, mc5, md5, me5, la5, rfl⟩, sa5, ee5, tt5, ke5⟩, ai5, ti5, Fi5, bi5, nf5, ⟨⟨nm12, q12, N12, bs12, _, sn12, su12, ab12, co12, dd12, ma12, mb12, mc12, md12, me12, la12, rfl⟩, sa12, ee12, tt12, ke12⟩, ai12, ti12, Fi12, bi12, nf12, ⟨PySem.W.mg_of X G kk0, rr0, rr1, rr2⟩, ex1, pp1, uu1, qq1_0, qq1_1, qq1_2, qq1_3, qq1_4, qq1_5, qq1_6, qq1_7, qq1_8, qq1_9, qq1_10, qq1_11, qq1_12, qq1_13, qq1_14, ex8, pp8, uu8, qq8_0, qq8_1, qq8_2, qq8_3, qq8_4, qq8_5, qq8_6, qq8_7, qq8_8, qq8_9, qq8_10, qq8_11, qq8_12, qq8_13, qq8_14, uu3, qq3_0, qq3_1, qq3_2, qq3_3, qq3_4, qq3_5, qq3_6, qq3_7, qq3_8, qq3_9, qq3_10, qq3_11, qq3_12, qq3_13, qq3_14, ex2, pp2, uu2, qq2_0, qq2_1, qq2_2, qq2_3, qq2_4, qq2_5, qq2_6, qq2_7, qq2_8, qq2_9, qq2_10, qq2_11, qq2_12, qq2_13, qq2_14⟩
  exact ⟨_, fun s v => .of_eq rfl, fun base _ _ => ok_law T⟩
end Pf
open PySem PySem.W PyProof.Rows
set_option maxHeartbeats 0 in
theorem PySem.Challenge.cw_tiehues_k41_trees_refused_holds : PySem.Challenge.rw_tiehues_k41_trees_refused.Holds := by
  w_on; o_law; k_head; (case hw => w_witness2)
  k_fill
  refine L2.walk_ofK (l := PySem.Challenge.rw_tiehues_k41_trees_refused) (n := 63) (k := 10) (x := "_law_script") (CX := L2.CX0) (sp := Pf.sp_law) rfl (by decide) rfl ⟨rfl, by decide, by decide⟩ (fun w h Y => PySem.W.kIn_of Y) ?F (fun _ _ a ns hl _ hS => ⟨a, ns, rfl, hS, hl, fun _ => rfl⟩) (fun _ _ _ _ h => h)
  case F =>
    intro w mg fa h KX G hmg
    refine' Pf.all_mk KX G hmg ?a0 ?l0 ?c0 ?k0 ?a1 ?l1 ?c1 ?k1 ?a2 ?l2 ?c2 ?k2 ?a3 ?l3 ?c3 ?k3 ?a4 ?l4 ?c4 ?k4 ?a5 ?l5 ?c5 ?k5 ?a6 ?l6 ?c6 ?k6 ?a7 ?l7 ?c7 ?k7 ?a8 ?l8 ?c8 ?k8 ?a9 ?l9 ?c9 ?k9 ?a10 ?l10 ?c10 ?k10 ?a11 ?l11 ?c11 ?k11 ?a12 ?l12 ?c12 ?k12 ?a13 ?l13 ?c13 ?k13 ?a14 ?l14 ?c14 ?k14 ?a15 ?l15 ?c15 ?k15 ?a16 ?l16 ?c16 ?k16 ?a17 ?l17 ?c17 ?k17 ?a18 ?l18 ?c18 ?k18 ?a19 ?l19 ?c19 ?k19 ?a20 ?l20 ?c20 ?k20 ?a21 ?l21 ?c21 ?k21 ?a22 ?l22 ?c22 ?k22 ?a23 ?l23 ?c23 ?k23 ?a24 ?l24 ?c24 ?k24 ?a25 ?l25 ?c25 ?k25 ?a26 ?l26 ?c26 ?k26 ?a27 ?m27 ?i27 ?n27 ?p27 ?l27 ?c27 ?k27 ?pg27 ?hd27 ?po27 ?sb27 ?nn27_0 ?nn27_1 ?nn27_2 ?i28 ?n28 ?l28 ?c28 ?k28 ?i29 ?n29 ?l29 ?c29 ?k29 ?i30 ?n30 ?l30 ?c30 ?k30 ?i31 ?n31 ?l31 ?c31 ?k31 ?i32 ?n32 ?l32 ?c32 ?k32 ?i33 ?n33 ?l33 ?c33 ?k33 ?i34 ?n34 ?l34 ?c34 ?k34 ?i35 ?n35 ?l35 ?c35 ?k35 ?e0 ?e1 ?e2 ?z0 ?z1 ?z2 ?z3 ?z4 ?z5 ?z6 ?z7 ?z8 ?z9 ?z10 ?kk0 ?xx0 ?tt0 ?kk1 ?xx1 ?tt1 ?kk2 ?xx2 ?tt2 ?kk3 ?xx3 ?tt3 ?kk4 ?xx4 ?tt4 ?kk5 ?xx5 ?tt5 ?kk6 ?xx6 ?tt6 ?kk7 ?xx7 ?tt7 ?kk8 ?xx8 ?tt8 ?kk9 ?xx9 ?tt9 ?kk10 ?xx10 ?tt10 ?kk11 ?xx11 ?tt11 ?kk12 ?xx12 ?tt12 ?kk13 ?xx13 ?tt13 ?kk14 ?xx14 ?tt14 ?la3 ?sa3 ?ee3 ?ke3 ?ai3 ?ti3 ?li3 ?ci3 ?ki3 ?nf3 ?la5 ?sa5 ?ee5 ?ke5 ?ai5 ?ti5 ?li5 ?ci5 ?ki5 ?nf5 ?la12 ?sa12 ?ee12 ?ke12 ?ai12 ?ti12 ?li12 ?ci12 ?ki12 ?nf12 ?rr0 ?rr1 ?rr2 ?ex1 ?pp1 ?uu1 ?qq1_0 ?qq1_1 ?qq1_2 ?qq1_3 ?qq1_4 ?qq1_5 ?qq1_6 ?qq1_7 ?qq1_8 ?qq1_9 ?qq1_10 ?qq1_11 ?qq1_12 ?qq1_13 ?qq1_14 ?ex8 ?pp8 ?uu8 ?qq8_0 ?qq8_1 ?qq8_2 ?qq8_3 ?qq8_4 ?qq8_5 ?qq8_6 ?qq8_7 ?qq8_8 ?qq8_9 ?qq8_10 ?qq8_11 ?qq8_12 ?qq8_13 ?qq8_14 ?uu3 ?qq3_0 ?qq3_1 ?qq3_2 ?qq3_3 ?qq3_4 ?qq3_5 ?qq3_6 ?qq3_7 ?qq3_8 ?qq3_9 ?qq3_10 ?qq3_11 ?qq3_12 ?qq3_13 ?qq3_14 ?ex2 ?pp2 ?uu2 ?qq2_0 ?qq2_1 ?qq2_2 ?qq2_3 ?qq2_4 ?qq2_5 ?qq2_6 ?qq2_7 ?qq2_8 ?qq2_9 ?qq2_10 ?qq2_11 ?qq2_12 ?qq2_13 ?qq2_14
    (case a0 => k_is); (case l0 => k_is); (case c0 => k_is); (case k0 => k_is); (case a1 => k_is); (case l1 => k_is); (case c1 => k_is); (case k1 => k_is); (case a2 => k_is); (case l2 => k_is); (case c2 => k_is); (case k2 => k_is); (case a3 => k_is); (case l3 => k_is); (case c3 => k_is); (case k3 => k_is); (case a4 => k_is); (case l4 => k_is); (case c4 => k_is); (case k4 => k_is); (case a5 => k_is); (case l5 => k_is); (case c5 => k_is); (case k5 => k_is); (case a6 => k_is); (case l6 => k_is); (case c6 => k_is); (case k6 => k_is); (case a7 => k_is); (case l7 => k_is); (case c7 => k_is); (case k7 => k_is); (case a8 => k_is); (case l8 => k_is); (case c8 => k_is); (case k8 => k_is); (case a9 => k_is); (case l9 => k_is); (case c9 => k_is); (case k9 => k_is); (case a10 => k_is); (case l10 => k_is); (case c10 => k_is); (case k10 => k_is); (case a11 => k_is); (case l11 => k_is); (case c11 => k_is); (case k11 => k_is); (case a12 => k_is); (case l12 => k_is); (case c12 => k_is); (case k12 => k_is); (case a13 => k_is); (case l13 => k_is); (case c13 => k_is); (case k13 => k_is); (case a14 => k_is); (case l14 => k_is); (case c14 => k_is); (case k14 => k_is); (case a15 => k_is); (case l15 => k_is); (case c15 => k_is); (case k15 => k_is); (case a16 => k_is); (case l16 => k_is); (case c16 => k_is); (case k16 => k_is); (case a17 => k_is); (case l17 => k_is); (case c17 => k_is); (case k17 => k_is); (case a18 => k_is); (case l18 => k_is); (case c18 => k_is); (case k18 => k_is); (case a19 => k_is); (case l19 => k_is); (case c19 => k_is); (case k19 => k_is); (case a20 => k_is); (case l20 => k_is); (case c20 => k_is); (case k20 => k_is); (case a21 => k_is); (case l21 => k_is); (case c21 => k_is); (case k21 => k_is); (case a22 => k_is); (case l22 => k_is); (case c22 => k_is); (case k22 => k_is); (case a23 => k_is); (case l23 => k_is); (case c23 => k_is); (case k23 => k_is); (case a24 => k_is); (case l24 => k_is); (case c24 => k_is); (case k24 => k_is); (case a25 => k_is); (case l25 => k_is); (case c25 => k_is); (case k25 => k_is); (case a26 => k_is); (case l26 => k_is); (case c26 => k_is); (case k26 => k_is); (case a27 => k_is); (case m27 => first | k_is | kernel_rfl); (case i27 => k_is); (case n27 => first | k_is | kernel_rfl); (case p27 => k_is); (case l27 => k_is); (case c27 => k_is); (case k27 => k_is); (case pg27 => first | k_is | kernel_rfl); (case hd27 => first | k_is | kernel_rfl); (case po27 => first | k_is | kernel_rfl); (case sb27 => first | k_is | kernel_rfl); (case nn27_0 => first | k_is | kernel_rfl); (case nn27_1 => first | k_is | kernel_rfl); (case nn27_2 => first | k_is | kernel_rfl); (case i28 => k_is); (case n28 => first | k_is | kernel_rfl); (case l28 => k_is); (case c28 => k_is); (case k28 => k_is); (case i29 => k_is); (case n29 => first | k_is | kernel_rfl); (case l29 => k_is); (case c29 => k_is); (case k29 => k_is); (case i30 => k_is); (case n30 => first | k_is | kernel_rfl); (case l30 => k_is); (case c30 => k_is); (case k30 => k_is); (case i31 => k_is); (case n31 => first | k_is | kernel_rfl); (case l31 => k_is); (case c31 => k_is); (case k31 => k_is); (case i32 => k_is); (case n32 => first | k_is | kernel_rfl); (case l32 => k_is); (case c32 => k_is); (case k32 => k_is); (case i33 => k_is); (case n33 => first | k_is | kernel_rfl); (case l33 => k_is); (case c33 => k_is); (case k33 => k_is); (case i34 => k_is); (case n34 => first | k_is | kernel_rfl); (case l34 => k_is); (case c34 => k_is); (case k34 => k_is); (case i35 => k_is); (case n35 => first | k_is | kernel_rfl); (case l35 => k_is); (case c35 => k_is); (case k35 => k_is); (case e0 => k_is); (case e1 => k_is); (case e2 => k_is); (case z0 => k_is); (case z1 => k_is); (case z2 => k_is); (case z3 => k_is); (case z4 => k_is); (case z5 => k_is); (case z6 => k_is); (case z7 => k_is); (case z8 => k_is); (case z9 => k_is); (case z10 => k_is); (case kk0 => k_is); (case xx0 => kernel_rfl); (case tt0 => k_is); (case kk1 => k_is); (case xx1 => kernel_rfl); (case tt1 => k_is); (case kk2 => k_is); (case xx2 => kernel_rfl); (case tt2 => k_is); (case kk3 => k_is); (case xx3 => kernel_rfl); (case tt3 => k_is); (case kk4 => k_is); (case xx4 => kernel_rfl); (case tt4 => k_is); (case kk5 => k_is); (case xx5 => kernel_rfl); (case tt5 => k_is); (case kk6 => k_is); (case xx6 => kernel_rfl); (case tt6 => k_is); (case kk7 => k_is); (case xx7 => kernel_rfl); (case tt7 => k_is); (case kk8 => k_is); (case xx8 => kernel_rfl); (case tt8 => k_is); (case kk9 => k_is); (case xx9 => kernel_rfl); (case tt9 => k_is); (case kk10 => k_is); (case xx10 => kernel_rfl); (case tt10 => k_is); (case kk11 => k_is); (case xx11 => kernel_rfl); (case tt11 => k_is); (case kk12 => k_is); (case xx12 => kernel_rfl); (case tt12 => k_is); (case kk13 => k_is); (case xx13 => kernel_rfl); (case tt13 => k_is); (case kk14 => k_is); (case xx14 => kernel_rfl); (case tt14 => k_is); (case la3 => k_is); (case sa3 => k_is); (case ee3 => k_is); (case ke3 => k_is); (case ai3 => k_is); (case ti3 => k_is); (case li3 => k_is); (case ci3 => k_is); (case ki3 => k_is); (case nf3 => k_is); (case la5 => k_is); (case sa5 => k_is); (case ee5 => k_is); (case ke5 => k_is); (case ai5 => k_is); (case ti5 => k_is); (case li5 => k_is); (case ci5 => k_is); (case ki5 => k_is); (case nf5 => k_is); (case la12 => k_is); (case sa12 => k_is); (case ee12 => k_is); (case ke12 => k_is); (case ai12 => k_is); (case ti12 => k_is); (case li12 => k_is); (case ci12 => k_is); (case ki12 => k_is); (case nf12 => k_is); (case rr0 => k_is); (case rr1 => k_is); (case rr2 => k_is); (case ex1 => k_exc); (case pp1 => k_is); (case uu1 => k_is); (case qq1_0 => kernel_rfl); (case qq1_1 => kernel_rfl); (case qq1_2 => kernel_rfl); (case qq1_3 => kernel_rfl); (case qq1_4 => kernel_rfl); (case qq1_5 => kernel_rfl); (case qq1_6 => kernel_rfl); (case qq1_7 => kernel_rfl); (case qq1_8 => kernel_rfl); (case qq1_9 => kernel_rfl); (case qq1_10 => kernel_rfl); (case qq1_11 => kernel_rfl); (case qq1_12 => kernel_rfl); (case qq1_13 => kernel_rfl); (case qq1_14 => kernel_rfl); (case ex8 => k_exc); (case pp8 => k_is); (case uu8 => k_is); (case qq8_0 => kernel_rfl); (case qq8_1 => kernel_rfl); (case qq8_2 => kernel_rfl); (case qq8_3 => kernel_rfl); (case qq8_4 => kernel_rfl); (case qq8_5 => kernel_rfl); (case qq8_6 => kernel_rfl); (case qq8_7 => kernel_rfl); (case qq8_8 => kernel_rfl); (case qq8_9 => kernel_rfl); (case qq8_10 => kernel_rfl); (case qq8_11 => kernel_rfl); (case qq8_12 => kernel_rfl); (case qq8_13 => kernel_rfl); (case qq8_14 => kernel_rfl); (case uu3 => k_is); (case qq3_0 => kernel_rfl); (case qq3_1 => kernel_rfl); (case qq3_2 => kernel_rfl); (case qq3_3 => kernel_rfl); (case qq3_4 => kernel_rfl); (case qq3_5 => kernel_rfl); (case qq3_6 => kernel_rfl); (case qq3_7 => kernel_rfl); (case qq3_8 => kernel_rfl); (case qq3_9 => kernel_rfl); (case qq3_10 => kernel_rfl); (case qq3_11 => kernel_rfl); (case qq3_12 => kernel_rfl); (case qq3_13 => kernel_rfl); (case qq3_14 => kernel_rfl); (case ex2 => k_exc); (case pp2 => k_is); (case uu2 => k_is); (case qq2_0 => kernel_rfl); (case qq2_1 => kernel_rfl); (case qq2_2 => kernel_rfl); (case qq2_3 => kernel_rfl); (case qq2_4 => kernel_rfl); (case qq2_5 => kernel_rfl); (case qq2_6 => kernel_rfl); (case qq2_7 => kernel_rfl); (case qq2_8 => kernel_rfl); (case qq2_9 => kernel_rfl); (case qq2_10 => kernel_rfl); (case qq2_11 => kernel_rfl); (case qq2_12 => kernel_rfl); (case qq2_13 => kernel_rfl); (case qq2_14 => kernel_rfl)
