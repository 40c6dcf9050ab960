import PyProof.Rows.All
import Wide.All
import OpenK.AllK
import Wide.FinOn
import HandS.ForMost
import HandS.NoneIn
import HandS.Conv
import HandS.IsInst
import HandS.Wide
import HandS.SortInts
import HandS.Walk
import KE.DataMinMax
import HandS.ForExc
import HandS.ExcInit
import KE.KExcIs
import HandS.ExcField
import HandS.ExcIs
import HandS.Text
import HandS.Zip
import HandS.Exc
import HandS.WordsDict
import HandS.Deep
import HandS.Iter
import HandS.Sort
import HandS.Dict
import HandS.ExcOwn
import HandS.More
import HandS.Style
import HandS.List
import HandS.Rev
import HandS.Set
import HandS.Strs
import KE.SortData
import HandS.ExcValue
import PySem.Challenge.RW_tiehues_k62_whole_least_loads_by_pairs
set_option Elab.async false
set_option linter.all false
set_option maxRecDepth 100000
set_option maxHeartbeats 4000000
set_option synthInstance.maxHeartbeats 0
set_option synthInstance.maxSize 1000000
namespace Cm
open PySem PySem.Spec PyProof.Rows L2

/-! ### named readings -/
def rLenX (K : PySem.W.Frag) : List V → Hp → VK → Prop := fun xs H Q => ∃ p ys, xs = [.ref p] ∧ (SqL K H p ys ∨ SqT K H p ys) ∧ Q (.int ys.length) H
theorem q_len {X : Cx} : CallR X (.builtin "len") (rLenX X.K) := call_len_seq
def rListOf (K : PySem.W.Frag) : List V → Hp → VK → Prop := fun xs H Q => ∃ p ys, xs = [.ref p] ∧ (SqL K H p ys ∨ SqT K H p ys) ∧ ∀ l, H l = none → Q (.ref l) (upd H l (.lst ys))
theorem q_listOf {X : Cx} : CallR X (.type "list") (rListOf X.K) := call_list_of
def rMax2 : List V → Hp → VK → Prop := fun xs H Q => ∃ i j, xs = [.int i, .int j] ∧ Q (.int (if j > i then j else i)) H
theorem q_max2 {X : Cx} (hc : X.calm = true) : CallR X (.builtin "max") rMax2 := call_max2 hc
def rMin2 : List V → Hp → VK → Prop := fun xs H Q => ∃ i j, xs = [.int i, .int j] ∧ Q (.int (if j < i then j else i)) H
theorem q_min2 {X : Cx} (hc : X.calm = true) : CallR X (.builtin "min") rMin2 := call_min2 hc
theorem q_isi {X : Cx} : CallR X (.builtin "isinstance") (rIsi X.K) := call_isi
def rIntOf : List V → Hp → VK → Prop := fun xs H Q => (∃ i, xs = [.int i] ∧ Q (.int i) H) ∨ ∃ k, xs = [.bl k] ∧ Q (.int (if k then 1 else 0)) H
theorem q_intB {X : Cx} : CallR X (.type "int") rIntOf := call_int1
theorem q_intI {X : Cx} : CallR X (.type "int") rIntOf := call_int1

/-! ### operators by names -/
def xAdd : R2 := rI0 fun i j => .int (i + j)
def xSub : R2 := rI0 fun i j => .int (i - j)
def xMul : R2 := rI CMul fun i j => .int (i * j)
def xMulW : R2 := rI CMulW fun i j => .int (i * j)
def xDiv : R2 := rI CDiv fun i j => .int (i / j)
def xDivW : R2 := rI CDivW fun i j => .int (i / j)
def xMod : R2 := rI (fun _ j => 0 < j) fun i j => .int (i % j)
def xPow : R2 := rI CPow fun i j => .int (i ^ j.toNat)
def xLt : R2 := rI0 fun i j => .bl (decide (i < j))
def xLe : R2 := rI0 fun i j => .bl (decide (i ≤ j))
def xGt : R2 := rI0 fun i j => .bl (decide (j < i))
def xGe : R2 := rI0 fun i j => .bl (decide (j ≤ i))
def xNeg : V → Hp → VK → Prop := rU fun i => .int (-i)
def xIsN : R2 := fun x y H Q => y = .non ∧ Q (.bl (decide (x = .non))) H
def xNotN : R2 := fun x y H Q => y = .non ∧ Q (.bl (!decide (x = .non))) H
def xTru (K : PySem.W.Frag) (ta : TE) : TT := fun σ H Q => ta σ H fun x H' => ∃ k, TruV K x H' k ∧ Q k H'

/-! ### xs[i] += e -/
def rGetL (K : PySem.W.Frag) : V → V → Hp → VK → Prop := fun x y H Q => ∃ p xs i v, x = .ref p ∧ y = .int i ∧ SqL K H p xs ∧ 0 ≤ i ∧ atI xs i = some v ∧ Q v H
theorem get_list {X : Cx} : PGet X (rGetL X.K) := by
  intro pins s σ H x y v u Q I rx ry h
  obtain ⟨p, xs, i, z, rfl, rfl, hq, h0, he, q⟩ := h
  cases rx
  obtain ⟨t, rfl⟩ := ry
  obtain ⟨its, r, pl, hz⟩ := I.list hq
  obtain ⟨j, h1, h2, h3, h4, h5⟩ := atI_get he
  obtain ⟨w, ew, rw'⟩ := r.get h2
  have hl := r.length
  have hn := line63
  have fin : EP X pins σ Q w s := ⟨z, H, I, rw', q⟩
  have hj : i.toNat = j := by
    rw [seqIndex_of h0 h5] at h1
    exact Option.some.inj h1
  exact wpAny_getItem_list pl.isList h0 (by omega) (by rw [hj]; simpa using ew) fin
def xAugL (K : PySem.W.Frag) (to ti te : TE) : TS := tAugS to ti te (rGetL K) (ipI fun i j => i + j) rSetL
theorem q_augL {X : Cx} {o i e : Expr} {to ti te : TE} {tpos pos : Pos} (ho : PE X o to) (hi : PE X i ti) (he : PE X e te)
    (ha : ∀ ov iv new, augStore i ov iv new = (do holding [new, ov, iv] (setItem ov iv new); release [new, ov, iv] []; pure .next) := by intros; rfl) : PS X (.AugAssign (.Subscript o i tpos) .Add e pos) (xAugL X.K to ti te) :=
  ps_augS ho hi get_list he ip_add set_list ha

/-! ### constants of the module -/
def g_tok (mg : Str → Option Value) (x : Str) : Tok := match mg x with
  | some (.int _ t) => t
  | _ => default
theorem tok_mk {mg : Str → Option Value} {x : Str} {n : Int} {t : Tok} (h : mg x = some (.int n t)) : mg x = some (.int n (g_tok mg x)) := by
  unfold g_tok
  rw [h]

/-! ### heaps -/
theorem same_new {H : Hp} {p : Addr} {o : HO} (h : H p = none) : Same H (upd H p o) := fun b x e => by
  rw [upd_ne (ne_of_none e h)]
  exact e
theorem same_mut {H H' : Hp} {p : Addr} {o : HO} (e : Same H H') (h : H p = none) : Same H (upd H' p o) := fun a u ha => by
  rw [upd_ne (ne_of_none ha h)]
  exact e a u ha
theorem same_seqT {K : PySem.W.Frag} {H H' : Hp} {a : Addr} {xs : List V} (e : Same H H') (h : SqT K H a xs) : SqT K H' a xs := by
  rcases h with (h | ⟨o, h⟩) | h
  · exact .inl (.inl (e _ _ h))
  · exact .inl (.inr ⟨o, e _ _ h⟩)
  · exact .inr h
theorem sl {K : PySem.W.Frag} {H : Hp} {a : Addr} {xs : List V} (h : H a = some (.lst xs)) : SqL K H a xs := .inl (.inl h)
theorem stp {K : PySem.W.Frag} {H : Hp} {a : Addr} {xs : List V} (h : H a = some (.tup xs)) : SqT K H a xs := .inl (.inl h)
theorem sz {n : Nat} (h : n ≤ 100000) : n ≤ sizeLine := Nat.le_trans h (by decide)
theorem szl {n : Nat} (h : n < 100000) : n < sizeLine := Nat.lt_of_lt_of_le h (by decide)

/-! ### data -/
mutual
theorem dp_same {K : PySem.W.Frag} {H H' : Hp} (e : Same H H') : ∀ {v : V} {d : PyData}, Dp K H v d → Dp K H' v d
  | _, _, .non => .non
  | _, _, .bl b => .bl b
  | _, _, .int i => .int i
  | _, _, .str x => .str x
  | _, _, .lst s r => .lst (e.seq s) (dpa_same e r)
  | _, _, .tup s r => .tup (same_seqT e s) (dpa_same e r)
theorem dpa_same {K : PySem.W.Frag} {H H' : Hp} (e : Same H H') : ∀ {vs : List V} {ds : List PyData}, DpAll K H vs ds → DpAll K H' vs ds
  | _, _, .nil => .nil
  | _, _, .cons h r => .cons (dp_same e h) (dpa_same e r)
end
section
variable {K : PySem.W.Frag} {H : Hp}
theorem dp_int {v : V} {i : Int} (h : Dp K H v (.int i)) : v = .int i := by cases h; rfl
theorem dp_bool {v : V} {b : Bool} (h : Dp K H v (.bool b)) : v = .bl b := by cases h; rfl
theorem dp_str {v : V} {s : Str} (h : Dp K H v (.str s)) : v = .str s := by cases h; rfl
theorem dp_list {v : V} {ds : List PyData} (h : Dp K H v (.list ds)) : ∃ a xs, v = .ref a ∧ SqL K H a xs ∧ DpAll K H xs ds := by
  cases h with | lst s r => exact ⟨_, _, rfl, s, r⟩
theorem dp_tup {v : V} {ds : List PyData} (h : Dp K H v (.tuple ds)) : ∃ a xs, v = .ref a ∧ SqT K H a xs ∧ DpAll K H xs ds := by
  cases h with | tup s r => exact ⟨_, _, rfl, s, r⟩
theorem dp_tup2 {v : V} {c d : PyData} (h : Dp K H v (.tuple [c, d])) : ∃ a x y, v = .ref a ∧ SqT K H a [x, y] ∧ Dp K H x c ∧ Dp K H y d := by
  cases h with | tup s r =>
    cases r with | cons h1 r =>
      cases r with | cons h2 r =>
        cases r
        exact ⟨_, _, _, rfl, s, h1, h2⟩
theorem dp_pair {v : V} {a b : Int} (h : Dp K H v (.tuple [.int a, .int b])) : ∃ p, v = .ref p ∧ SqT K H p [.int a, .int b] := by
  obtain ⟨p, x, y, rfl, s, h1, h2⟩ := dp_tup2 h
  rw [dp_int h1, dp_int h2] at s
  exact ⟨p, rfl, s⟩
theorem dpa_ints : ∀ {ns : List Int} {vs : List V}, DpAll K H vs (ns.map PyData.int) → vs = ns.map V.int
  | [], _, h => by cases h; rfl
  | n :: r, _, h => by
    cases h with | cons h1 h2 => rw [dp_int h1, dpa_ints h2]; rfl
theorem dpa_of_ints : ∀ ns : List Int, DpAll K H (ns.map V.int) (ns.map PyData.int)
  | [] => .nil
  | n :: r => .cons (.int n) (dpa_of_ints r)
theorem dpa_len : ∀ {vs : List V} {ds : List PyData}, DpAll K H vs ds → vs.length = ds.length
  | _, _, .nil => rfl
  | _, _, .cons _ r => by simp [dpa_len r]
theorem dpa_get : ∀ {vs : List V} {ds : List PyData} {i : Nat} {v : V}, DpAll K H vs ds → vs[i]? = some v → ∃ d, ds[i]? = some d ∧ Dp K H v d
  | _, _, _, _, .nil, e => by simp at e
  | _, _, 0, _, .cons h _, e => by simp at e; subst e; exact ⟨_, rfl, h⟩
  | _, _, i + 1, _, .cons _ r, e => by
    obtain ⟨d, h1, h2⟩ := dpa_get (i := i) r (by simpa using e)
    exact ⟨d, by simpa using h1, h2⟩
theorem dpa_get2 : ∀ {vs : List V} {ds : List PyData} {i : Nat} {d : PyData}, DpAll K H vs ds → ds[i]? = some d → ∃ v, vs[i]? = some v ∧ Dp K H v d
  | _, _, _, _, .nil, e => by simp at e
  | _, _, 0, _, .cons h _, e => by simp at e; subst e; exact ⟨_, rfl, h⟩
  | _, _, i + 1, _, .cons _ r, e => by
    obtain ⟨d, h1, h2⟩ := dpa_get2 (i := i) r (by simpa using e)
    exact ⟨d, by simpa using h1, h2⟩
theorem dpa_app {vs ws : List V} {ds es : List PyData} : DpAll K H vs ds → DpAll K H ws es → DpAll K H (vs ++ ws) (ds ++ es)
  | .nil, r => r
  | .cons h t, r => .cons h (dpa_app t r)
/-- a list of ints -/
abbrev dInts (ns : List Int) : PyData := .list (ns.map PyData.int)
theorem dp_ints {v : V} {ns : List Int} (h : Dp K H v (dInts ns)) : ∃ a, v = .ref a ∧ SqL K H a (ns.map V.int) := by
  obtain ⟨a, xs, rfl, s, r⟩ := dp_list h
  rw [dpa_ints r] at s
  exact ⟨a, rfl, s⟩
theorem dp_of_ints {a : Addr} {ns : List Int} (h : SqL K H a (ns.map V.int)) : Dp K H (.ref a) (dInts ns) := .lst h (dpa_of_ints ns)
/-- a pair of ints -/
abbrev dPair (p : Int × Int) : PyData := .tuple [.int p.1, .int p.2]
theorem dp_of_pair {a : Addr} {x y : Int} (h : SqT K H a [.int x, .int y]) : Dp K H (.ref a) (dPair (x, y)) := .tup h (.cons (.int x) (.cons (.int y) .nil))
abbrev dPairs (ps : List (Int × Int)) : PyData := .list (ps.map dPair)
end

theorem dpairs_get {K : PySem.W.Frag} {H : Hp} {xs : List V} {ps : List (Int × Int)} {i : Nat} {x : V} (hxs : DpAll K H xs (ps.map dPair)) (hx : xs[i]? = some x) : ∃ p c, ps[i]? = some p ∧ x = .ref c ∧ SqT K H c [.int p.1, .int p.2] := by
  obtain ⟨d, hd, hdx⟩ := dpa_get hxs hx
  rw [List.getElem?_map] at hd
  obtain ⟨p, hp, rfl⟩ := Option.map_eq_some_iff.mp hd
  obtain ⟨c, rfl, hcs⟩ := dp_pair hdx
  exact ⟨p, c, hp, rfl, hcs⟩
/-- data that may be compared: no dicts, at most n deep -/
def Sh (n : Nat) (d : PyData) : Prop := d.canLay0 = true ∧ d.depth ≤ n
theorem Sh.shaped {n : Nat} {d : PyData} (h : Sh n d) (hn : n ≤ 64) : SeqAt.shaped d = true := by
  unfold SeqAt.shaped
  rw [h.1, decide_eq_true (Nat.le_trans h.2 hn)]; rfl
theorem Sh.mono {n m : Nat} {d : PyData} (h : Sh n d) (hn : n ≤ m) : Sh m d := ⟨h.1, Nat.le_trans h.2 hn⟩
theorem sh_int {n : Nat} {i : Int} : Sh n (.int i) := ⟨rfl, Nat.zero_le _⟩
theorem sh_bool {n : Nat} {b : Bool} : Sh n (.bool b) := ⟨rfl, Nat.zero_le _⟩
theorem sh_none {n : Nat} : Sh n .none := ⟨rfl, Nat.zero_le _⟩
theorem sh_all {n : Nat} : ∀ {ds : List PyData}, (∀ d ∈ ds, Sh n d) → PyData.canLayAll0 ds = true ∧ PyData.depthAll ds ≤ n
  | [], _ => ⟨rfl, Nat.zero_le _⟩
  | d :: r, h => by
    obtain ⟨h1, h2⟩ := sh_all (ds := r) fun x hx => h x (List.mem_cons_of_mem _ hx)
    obtain ⟨h3, h4⟩ := h d List.mem_cons_self
    refine ⟨?_, ?_⟩
    · show (PyData.canLay0 d && PyData.canLayAll0 r) = true
      rw [h3, h1]; rfl
    · show max d.depth (PyData.depthAll r) ≤ n
      omega
theorem sh_list {n : Nat} {ds : List PyData} (h : ∀ d ∈ ds, Sh n d) : Sh (n + 1) (.list ds) := by
  obtain ⟨h1, h2⟩ := sh_all h
  exact ⟨h1, by show PyData.depthAll ds + 1 ≤ n + 1; omega⟩
theorem sh_tup {n : Nat} {ds : List PyData} (h : ∀ d ∈ ds, Sh n d) : Sh (n + 1) (.tuple ds) := by
  obtain ⟨h1, h2⟩ := sh_all h
  exact ⟨h1, by show PyData.depthAll ds + 1 ≤ n + 1; omega⟩
theorem sh_ints {n : Nat} (ns : List Int) : Sh (n + 1) (dInts ns) := sh_list fun d hd => by
  obtain ⟨i, _, rfl⟩ := List.mem_map.mp hd
  exact sh_int
theorem sh_pair {n : Nat} (p : Int × Int) : Sh (n + 1) (dPair p) := sh_tup fun d hd => by
  rcases List.mem_cons.mp hd with rfl | hd
  · exact sh_int
  · rcases List.mem_cons.mp hd with rfl | hd
    · exact sh_int
    · cases hd
theorem sh_pairs {n : Nat} (ps : List (Int × Int)) : Sh (n + 2) (dPairs ps) := sh_list fun d hd => by
  obtain ⟨p, _, rfl⟩ := List.mem_map.mp hd
  exact sh_pair p
theorem sh_two {n : Nat} {c d : PyData} (h1 : Sh n c) (h2 : Sh n d) : Sh (n + 1) (.tuple [c, d]) := sh_tup fun x hx => by
  rcases List.mem_cons.mp hx with rfl | hx
  · exact h1
  · rcases List.mem_cons.mp hx with rfl | hx
    · exact h2
    · cases hx
theorem Sh.refl {n : Nat} {d : PyData} (h : Sh n d) : PyData.eqv d d = true := SeqAt.eqv_refl d h.1
theorem ff_iff {P : Prop} (h : ¬ P) : false = true ↔ P := ⟨fun z => (nomatch z), fun z => (h z).elim⟩
theorem tt_iff {P : Prop} (h : P) : true = true ↔ P := ⟨fun _ => h, fun _ => rfl⟩

theorem ixN_of {n : Nat} {i : Int} (h0 : 0 ≤ i) (h1 : i < n) : ixN n i = some i.toNat := by unfold ixN; rw [if_pos h0, if_pos h1]
theorem map_erase (ns : List Int) (i : Nat) : (ns.map V.int).eraseIdx i = (ns.eraseIdx i).map V.int := by
  induction ns generalizing i with
  | nil => rfl
  | cons x r ih => cases i with
    | zero => rfl
    | succ i => show V.int x :: (r.map V.int).eraseIdx i = _; rw [ih]; rfl
theorem erase_perm {α : Type} (l : List α) (i : Nat) (h : i < l.length) : (l[i] :: l.eraseIdx i).Perm l := by
  induction l generalizing i with
  | nil => exact absurd h (by simp)
  | cons x r ih => cases i with
    | zero => exact List.Perm.refl _
    | succ i =>
      have h' : i < r.length := by simpa using h
      show (r[i] :: x :: r.eraseIdx i).Perm (x :: r)
      exact (List.Perm.swap _ _ _).trans ((ih i h').cons x)
theorem getD_memI {ns : List Int} {i : Int} (h0 : 0 ≤ i) (h1 : i < ns.length) : ns.getD i.toNat 0 ∈ ns := by
  have h : i.toNat < ns.length := by omega
  rw [List.getD_eq_getElem?_getD, List.getElem?_eq_getElem h]
  exact List.getElem_mem h
theorem not_in2 {p a b : Addr} (h1 : p ≠ a) (h2 : p ≠ b) : p ∉ [a, b] := by
  intro z
  rcases List.mem_cons.mp z with z | z
  · exact h1 z
  · rcases List.mem_cons.mp z with z | z
    · exact h2 z
    · cases z

/-! ### readings, step by step -/
section
variable {K : PySem.W.Frag} {σ : L2.St} {H : Hp} {D : Ends} {Q : VK} {ta tb te : TE} {t u : TT} {s1 s2 : TS} {QT : Bool → Hp → Prop} {QA : List V → Hp → Prop} {tr : TA} {QS : L2.St → Hp → Prop}
theorem k_seq {nx : L2.St → Hp → Prop} {rt : VK} {bk ct : L2.St → Hp → Prop} (h : s1 ⟨s2 ⟨nx, rt, bk, ct⟩, rt, bk, ct⟩ σ H) : tSeq s1 s2 ⟨nx, rt, bk, ct⟩ σ H := h
theorem k_nx {nx : L2.St → Hp → Prop} {rt : VK} {bk ct : L2.St → Hp → Prop} (h : nx σ H) : Ends.nx ⟨nx, rt, bk, ct⟩ σ H := h
theorem k_next {nx : L2.St → Hp → Prop} {rt : VK} {bk ct : L2.St → Hp → Prop} (h : nx σ H) : tNext ⟨nx, rt, bk, ct⟩ σ H := h
theorem k_cont {nx : L2.St → Hp → Prop} {rt : VK} {bk ct : L2.St → Hp → Prop} (h : ct σ H) : tCont ⟨nx, rt, bk, ct⟩ σ H := h
theorem k_brk {nx : L2.St → Hp → Prop} {rt : VK} {bk ct : L2.St → Hp → Prop} (h : bk σ H) : tBreak ⟨nx, rt, bk, ct⟩ σ H := h
theorem k_set {nx : L2.St → Hp → Prop} {rt : VK} {bk ct : L2.St → Hp → Prop} {i : Nat} (h : te σ H fun x H1 => nx (σ.set i (some x)) H1) : tAsg te (gName i) ⟨nx, rt, bk, ct⟩ σ H := h
theorem k_asg {nx : L2.St → Hp → Prop} {rt : VK} {bk ct : L2.St → Hp → Prop} {g : TG} (h : te σ H fun x H1 => g x σ H1 nx) : tAsg te g ⟨nx, rt, bk, ct⟩ σ H := h
theorem k_drop {nx : L2.St → Hp → Prop} {rt : VK} {bk ct : L2.St → Hp → Prop} (h : te σ H fun _ H1 => nx σ H1) : tDrop te ⟨nx, rt, bk, ct⟩ σ H := h
theorem k_ret {nx : L2.St → Hp → Prop} {rt : VK} {bk ct : L2.St → Hp → Prop} (h : te σ H rt) : tRet te ⟨nx, rt, bk, ct⟩ σ H := h
theorem k_retN {nx : L2.St → Hp → Prop} {rt : VK} {bk ct : L2.St → Hp → Prop} (h : rt .non H) : tRetN ⟨nx, rt, bk, ct⟩ σ H := h
theorem k_aug {nx : L2.St → Hp → Prop} {rt : VK} {bk ct : L2.St → Hp → Prop} {i : Nat} {f : Int → Int → Int} {a : Int} (e : σ[i]? = some (some (.int a))) (h : te σ H fun y H1 => ipI f (.int a) y H1 fun z H2 => nx (σ.set i (some z)) H2) : tAug i te (ipI f) ⟨nx, rt, bk, ct⟩ σ H := ⟨_, e, h⟩
theorem k_augL {nx : L2.St → Hp → Prop} {rt : VK} {bk ct : L2.St → Hp → Prop} {to ti : TE} (h : to σ H fun o H1 => ti σ H1 fun i H2 => rGetL K o i H2 fun x H3 => te σ H3 fun y H4 => ipI (fun i j => i + j) x y H4 fun z H5 => rSetL o i z H5 fun H6 => nx σ H6) : xAugL K to ti te ⟨nx, rt, bk, ct⟩ σ H := h
theorem k_ipI {f : Int → Int → Int} {a b : Int} (h : Q (.int (f a b)) H) : ipI f (.int a) (.int b) H Q := ⟨a, b, rfl, rfl, h⟩
theorem k_if (h : t σ H fun b H1 => if b = true then s1 D σ H1 else s2 D σ H1) : tIfS t s1 s2 D σ H := h
theorem k_var {i : Nat} {v : V} (e : σ[i]? = some (some v)) (h : Q v H) : tVar i σ H Q := ⟨v, e, h⟩
theorem k_c {v : V} (h : Q v H) : tC v σ H Q := h
theorem k_op {r : R2} (h : ta σ H fun x H1 => tb σ H1 fun y H2 => r x y H2 Q) : tOp r ta tb σ H Q := h
theorem k_un {r : V → Hp → VK → Prop} (h : ta σ H fun x H1 => r x H1 Q) : tUn r ta σ H Q := h
theorem k_I0 {g : Int → Int → V} {i j : Int} (h : Q (g i j) H) : rI0 g (.int i) (.int j) H Q := ⟨i, j, rfl, rfl, h⟩
theorem k_I {C : Int → Int → Prop} {g : Int → Int → V} {i j : Int} (hc : C i j) (h : Q (g i j) H) : rI C g (.int i) (.int j) H Q := ⟨i, j, rfl, rfl, hc, h⟩
theorem k_add {i j : Int} (h : Q (.int (i + j)) H) : xAdd (.int i) (.int j) H Q := ⟨i, j, rfl, rfl, h⟩
theorem k_sub {i j : Int} (h : Q (.int (i - j)) H) : xSub (.int i) (.int j) H Q := ⟨i, j, rfl, rfl, h⟩
theorem k_mul {i j : Int} (hc : CMul i j) (h : Q (.int (i * j)) H) : xMul (.int i) (.int j) H Q := ⟨i, j, rfl, rfl, hc, h⟩
theorem k_mulW {i j : Int} (hc : CMulW i j) (h : Q (.int (i * j)) H) : xMulW (.int i) (.int j) H Q := ⟨i, j, rfl, rfl, hc, h⟩
theorem k_div {i j : Int} (hc : CDiv i j) (h : Q (.int (i / j)) H) : xDiv (.int i) (.int j) H Q := ⟨i, j, rfl, rfl, hc, h⟩
theorem k_divW {i j : Int} (hc : CDivW i j) (h : Q (.int (i / j)) H) : xDivW (.int i) (.int j) H Q := ⟨i, j, rfl, rfl, hc, h⟩
theorem k_mod {i j : Int} (hc : 0 < j) (h : Q (.int (i % j)) H) : xMod (.int i) (.int j) H Q := ⟨i, j, rfl, rfl, hc, h⟩
theorem k_pow {i j : Int} (hc : CPow i j) (h : Q (.int (i ^ j.toNat)) H) : xPow (.int i) (.int j) H Q := ⟨i, j, rfl, rfl, hc, h⟩
theorem k_lt {i j : Int} (h : Q (.bl (decide (i < j))) H) : xLt (.int i) (.int j) H Q := ⟨i, j, rfl, rfl, h⟩
theorem k_le {i j : Int} (h : Q (.bl (decide (i ≤ j))) H) : xLe (.int i) (.int j) H Q := ⟨i, j, rfl, rfl, h⟩
theorem k_gt {i j : Int} (h : Q (.bl (decide (j < i))) H) : xGt (.int i) (.int j) H Q := ⟨i, j, rfl, rfl, h⟩
theorem k_ge {i j : Int} (h : Q (.bl (decide (j ≤ i))) H) : xGe (.int i) (.int j) H Q := ⟨i, j, rfl, rfl, h⟩
theorem k_neg {i : Int} (h : Q (.int (-i)) H) : xNeg (.int i) H Q := ⟨i, rfl, h⟩
theorem k_U {g : Int → V} {i : Int} (h : Q (g i) H) : rU g (.int i) H Q := ⟨i, rfl, h⟩
theorem k_eqI {i j : Int} (h : Q (.bl (decide (i = j))) H) : rEq (.int i) (.int j) H Q := ⟨rfl, by
  have e : decide (V.int i = V.int j) = decide (i = j) := by
    by_cases c : i = j
    · rw [decide_eq_true c, decide_eq_true (by rw [c])]
    · rw [decide_eq_false c, decide_eq_false (fun z => c (V.int.inj z))]
  rw [e]; exact h⟩
theorem k_neI {i j : Int} (h : Q (.bl (!decide (i = j))) H) : rNe (.int i) (.int j) H Q := ⟨rfl, by
  have e : decide (V.int i = V.int j) = decide (i = j) := by
    by_cases c : i = j
    · rw [decide_eq_true c, decide_eq_true (by rw [c])]
    · rw [decide_eq_false c, decide_eq_false (fun z => c (V.int.inj z))]
  rw [e]; exact h⟩
theorem k_test (h : te σ H fun x H1 => ∃ k, x = .bl k ∧ QT k H1) : tTest te σ H QT := h
theorem k_B (h : te σ H fun x H1 => ∃ k, x = .bl k ∧ QT k H1) : tB te σ H QT := h
theorem k_bl {b : Bool} {R : Bool → Prop} (h : R b) : ∃ k, V.bl b = .bl k ∧ R k := ⟨b, rfl, h⟩
theorem k_and (h : t σ H fun c H1 => if c = true then u σ H1 QT else QT false H1) : tAnd t u σ H QT := h
theorem k_or (h : t σ H fun c H1 => if c = true then QT true H1 else u σ H1 QT) : tOr t u σ H QT := h
theorem k_not (h : t σ H fun c H1 => QT (!c) H1) : tNot t σ H QT := h
theorem k_notV (h : ta σ H fun x H1 => ∃ c, x = .bl c ∧ Q (.bl (!c)) H1) : tNotV ta σ H Q := h
theorem k_andV (h : ta σ H fun x H1 => ∃ c, x = .bl c ∧ if c = true then tb σ H1 Q else Q (.bl false) H1) : tAndV ta tb σ H Q := h
theorem k_orV (h : ta σ H fun x H1 => ∃ c, x = .bl c ∧ if c = true then Q (.bl true) H1 else tb σ H1 Q) : tOrV ta tb σ H Q := h
theorem k_cb {r : List V → Hp → VK → Prop} (h : tr σ H fun vs H1 => r vs H1 Q) : tCB r tr σ H Q := h
theorem k_nil (h : QA [] H) : tNil σ H QA := h
theorem k_cons (h : ta σ H fun x H1 => tr σ H1 fun xs H2 => QA (x :: xs) H2) : tCons ta tr σ H QA := h
theorem k_call {sp : Sp} {dvs : List V} {E : XK} (h : tr σ H fun vs H1 => sp (vs ++ dvs) H1 Q E) : tCall sp dvs E tr σ H Q := h
theorem k_len {p : Addr} {ys : List V} (hs : SqL K H p ys) (h : Q (.int ys.length) H) : rLenX K [.ref p] H Q := ⟨p, ys, rfl, .inl hs, h⟩
theorem k_len0 {p : Addr} (hs : H p = some (.lst [])) (h : Q (.int 0) H) : rLenX K [.ref p] H Q := ⟨p, [], rfl, .inl (sl hs), h⟩
theorem k_lenT {p : Addr} {ys : List V} (hs : SqT K H p ys) (h : Q (.int ys.length) H) : rLenX K [.ref p] H Q := ⟨p, ys, rfl, .inr hs, h⟩
theorem k_lenI {p : Addr} {ns : List Int} (hs : SqL K H p (ns.map V.int)) (h : Q (.int ns.length) H) : rLenX K [.ref p] H Q := ⟨p, _, rfl, .inl hs, by rw [List.length_map]; exact h⟩
theorem k_list {p : Addr} {ys : List V} (hs : SqL K H p ys) (h : ∀ l, H l = none → Q (.ref l) (upd H l (.lst ys))) : rListOf K [.ref p] H Q := ⟨p, ys, rfl, .inl hs, h⟩
theorem k_lst (h : tr σ H fun xs H1 => xs.length ≤ sizeLine ∧ ∀ p, H1 p = none → Q (.ref p) (upd H1 p (.lst xs))) : tLst tr σ H Q := h
theorem k_tup (h : tr σ H fun xs H1 => xs.length ≤ sizeLine ∧ ∀ p, H1 p = none → Q (.ref p) (upd H1 p (.tup xs))) : tTup tr σ H Q := h
theorem k_new {xs : List V} {R : Addr → Prop} (hn : xs.length ≤ 100000) (h : ∀ p, H p = none → R p) : xs.length ≤ sizeLine ∧ ∀ p, H p = none → R p := ⟨sz hn, h⟩
theorem k_gtup {n : Nat} {g : TGs} {a : Addr} {xs : List V} (hs : SqT K H a xs) (hn : xs.length = n) (h : g xs σ H QS) : gTup K n g (.ref a) σ H QS := ⟨a, xs, rfl, hs, hn, h⟩
theorem k_gunl {n : Nat} {g : TGs} {a : Addr} {xs : List V} (hs : SqL K H a xs) (hn : xs.length = n) (h : g xs σ H QS) : gUnl K n g (.ref a) σ H QS := ⟨a, xs, rfl, hs, hn, h⟩
theorem k_gcons {g : TG} {gs : TGs} {v : V} {r : List V} (h : g v σ H fun σ' H' => gs r σ' H' QS) : gCons g gs (v :: r) σ H QS := ⟨v, r, rfl, h⟩
theorem k_gnil (h : QS σ H) : gNil [] σ H QS := ⟨rfl, h⟩
theorem k_gname {i : Nat} {v : V} (h : QS (σ.set i (some v)) H) : gName i v σ H QS := h
theorem k_gsub {to ti : TE} {ts : TSet} {v : V} (h : to σ H fun o H1 => ti σ H1 fun i H2 => ts o i v H2 fun H3 => QS σ H3) : gSub to ti ts v σ H QS := h
theorem k_setL {p : Addr} {xs : List V} {k : Int} {j : Nat} {v : V} {QH : Hp → Prop} (hp : H p = some (.lst xs)) (hj : ixN xs.length k = some j) (h : QH (upd H p (.lst (xs.set j v)))) : rSetL (.ref p) (.int k) v H QH := ⟨p, xs, k, j, rfl, rfl, hp, hj, h⟩
theorem k_ixL {p : Addr} {xs : List V} {i : Int} {v : V} (hs : SqL K H p xs) (ha : atI xs i = some v) (h : Q v H) : rIxL K (.ref p) (.int i) H Q := ⟨p, xs, i, v, rfl, rfl, hs, ha, h⟩
theorem k_ixT {p : Addr} {xs : List V} {i : Int} {v : V} (hs : SqT K H p xs) (ha : atI xs i = some v) (h : Q v H) : rIxT K (.ref p) (.int i) H Q := ⟨p, xs, i, v, rfl, rfl, hs, ha, h⟩
theorem k_min {p : Addr} {ns : List Int} (hs : SqL K H p (ns.map V.int)) (h0 : 0 < ns.length) (h : ∀ m, m ∈ ns → (∀ y, y ∈ ns → m ≤ y) → Q (.int m) H) : rMin K [.ref p] H Q := ⟨p, ns, rfl, hs, h0, h⟩
theorem k_max {p : Addr} {ns : List Int} (hs : SqL K H p (ns.map V.int)) (h0 : 0 < ns.length) (h : ∀ m, m ∈ ns → (∀ y, y ∈ ns → y ≤ m) → Q (.int m) H) : rMax K [.ref p] H Q := ⟨p, ns, rfl, hs, h0, h⟩
theorem k_popI {p : Addr} {ns : List Int} {i : Int} (hp : H p = some (.lst (ns.map V.int))) (h0 : 0 ≤ i) (h1 : i < ns.length) (h2 : i < 1000000) (h : Q (.int (ns.getD i.toNat 0)) (upd H p (.lst ((ns.eraseIdx i.toNat).map V.int)))) : rPopAt (.ref p) [.int i] H Q := by
  refine ⟨p, _, i, i.toNat, .int (ns.getD i.toNat 0), rfl, rfl, hp, by omega, by omega, ?_, ?_, ?_⟩
  · exact (ixN_seq (ixN_of h0 (by rw [List.length_map]; exact h1))).1
  · have hh : i.toNat < ns.length := by omega
    rw [List.getElem?_map, List.getElem?_eq_getElem hh]
    simp [List.getD_eq_getElem?_getD, List.getElem?_eq_getElem hh]
  · have e : (ns.map V.int).eraseIdx i.toNat = (ns.eraseIdx i.toNat).map V.int := map_erase ns _
    rw [e]; exact h
theorem k_sortedI {a : Addr} {ns : List Int} (hs : SqL K H a (ns.map V.int)) (h : ∀ (ns' : List Int) (p : Addr), ns'.Perm ns → ns'.Pairwise (· ≤ ·) → H p = none → Q (.ref p) (upd H p (.lst (ns'.map V.int)))) : rSortedI K [.ref a] H Q := ⟨a, ns, rfl, hs, h⟩
theorem k_max2 {i j : Int} (h : Q (.int (if j > i then j else i)) H) : rMax2 [.int i, .int j] H Q := ⟨i, j, rfl, h⟩
theorem k_min2 {i j : Int} (h : Q (.int (if j < i then j else i)) H) : rMin2 [.int i, .int j] H Q := ⟨i, j, rfl, h⟩
theorem k_bm {T : String} {r : V → List V → Hp → VK → Prop} (h : ta σ H fun x H1 => tyV K T x H1 ∧ tr σ H1 fun xs H2 => r x xs H2 Q) : tBM K T r ta tr σ H Q := h
theorem k_bm0 {T : String} {r : V → List V → Hp → VK → Prop} (h : ta σ H fun x H1 => tyV K T x H1 ∧ r x [] H1 Q) : tBM0 K T r ta σ H Q := h
theorem k_cat {p q : Addr} {xs ys : List V} (hp : H p = some (.lst xs)) (hq : H q = some (.lst ys)) (hz : xs.length + ys.length ≤ 100000) (h : ∀ l, H l = none → Q (.ref l) (upd H l (.lst (xs ++ ys)))) : rCat (.ref p) (.ref q) H Q := ⟨p, q, xs, ys, rfl, rfl, hp, hq, sz hz, h⟩
theorem k_tyL {p : Addr} {xs : List V} {R : Prop} (hp : SqL K H p xs) (h : R) : tyV K "list" (.ref p) H ∧ R := ⟨.inl ⟨rfl, _, hp⟩, h⟩
theorem k_append {p : Addr} {xs : List V} {y : V} (hp : H p = some (.lst xs)) (hn : xs.length < 100000) (h : Q .non (upd H p (.lst (xs ++ [y])))) : rAppend (.ref p) [y] H Q := ⟨p, xs, y, rfl, rfl, hp, szl hn, h⟩
theorem k_itT {b : Bool} {A B : Prop} (e : b = true) (h : A) : if b = true then A else B := by rw [if_pos e]; exact h
theorem k_itF {b : Bool} {A B : Prop} (e : b = false) (h : B) : if b = true then A else B := by rw [e]; exact h
theorem iteNT {A B : Prop} (h : B) : if (!true) = true then A else B := iteF h
theorem iteNF {A B : Prop} (h : A) : if (!false) = true then A else B := iteT h
theorem k_itDT {c A B : Prop} [Decidable c] (e : c) (h : A) : if decide c = true then A else B := by rw [if_pos (decide_eq_true e)]; exact h
theorem k_itDF {c A B : Prop} [Decidable c] (e : ¬ c) (h : B) : if decide c = true then A else B := by rw [decide_eq_false e]; exact h
theorem k_itNT {c A B : Prop} [Decidable c] (e : ¬ c) (h : A) : if (!decide c) = true then A else B := by rw [decide_eq_false e]; exact h
theorem k_itNF {c A B : Prop} [Decidable c] (e : c) (h : B) : if (!decide c) = true then A else B := by rw [decide_eq_true e]; exact h
theorem k_for {nx : L2.St → Hp → Prop} {rt : VK} {bk ct : L2.St → Hp → Prop} {wi : TI} {g : TG} {tb : TS} (h : wi σ H fun J H1 => ∃ W : Nat → Nat → L2.St → Hp → Prop, (∃ m, W 0 m σ H1) ∧ ∀ i m σ H, W i m σ H →
  (J.stop i H ∧ nx σ H) ∨ (J.go i H ∧ ∃ N : L2.St → Hp → Prop, (∀ σ' H', N σ' H' → ∃ m', m' < m ∧ W (i + 1) m' σ' H') ∧ ∀ x H', J.yld i H x H' → g x σ H' fun σ2 H2 => tb ⟨N, rt, nx, N⟩ σ2 H2)) : tFor wi g tb ⟨nx, rt, bk, ct⟩ σ H := h
theorem forL {nx : L2.St → Hp → Prop} {rt : VK} {b : Addr} {xs : List V} {g : TG} {tb : TS} (hs0 : SqL K H b xs) (Pv : Nat → L2.St → Hp → Prop) (h0 : Pv 0 σ H) (hl : ∀ i σ H, i ≤ xs.length → Pv i σ H → SqL K H b xs)
    (hs : ∀ (i : Nat) x σ H, xs[i]? = some x → Pv i σ H → g x σ H fun σ2 H2 => tb ⟨Pv (i + 1), rt, nx, Pv (i + 1)⟩ σ2 H2) (hd : ∀ σ H, Pv xs.length σ H → nx σ H) :
    ∃ a, V.ref b = .ref a ∧ (∃ xs, SqL K H a xs) ∧ ∃ W : Nat → Nat → L2.St → Hp → Prop, (∃ m, W 0 m σ H) ∧ ∀ i m σ H, W i m σ H →
      ((Itl K a).stop i H ∧ nx σ H) ∨ ((Itl K a).go i H ∧ ∃ N : L2.St → Hp → Prop, (∀ σ' H', N σ' H' → ∃ m', m' < m ∧ W (i + 1) m' σ' H') ∧ ∀ x H', (Itl K a).yld i H x H' → g x σ H' fun σ2 H2 => tb ⟨N, rt, nx, N⟩ σ2 H2) :=
  ⟨b, rfl, ⟨xs, hs0⟩, for_list (D := ⟨nx, rt, fun _ _ => False, fun _ _ => False⟩) Pv h0 hl hs hd⟩
theorem forR {nx : L2.St → Hp → Prop} {rt : VK} {lo : Int} {n : Nat} {g : TG} {tb : TS} (Pv : Nat → L2.St → Hp → Prop) (h0 : Pv 0 σ H)
    (hs : ∀ (i : Nat) σ H, i < n → Pv i σ H → g (.int (lo + i)) σ H fun σ2 H2 => tb ⟨Pv (i + 1), rt, nx, Pv (i + 1)⟩ σ2 H2) (hd : ∀ σ H, Pv n σ H → nx σ H) :
    ∃ W : Nat → Nat → L2.St → Hp → Prop, (∃ m, W 0 m σ H) ∧ ∀ i m σ H, W i m σ H →
      ((Itr lo n).stop i H ∧ nx σ H) ∨ ((Itr lo n).go i H ∧ ∃ N : L2.St → Hp → Prop, (∀ σ' H', N σ' H' → ∃ m', m' < m ∧ W (i + 1) m' σ' H') ∧ ∀ x H', (Itr lo n).yld i H x H' → g x σ H' fun σ2 H2 => tb ⟨N, rt, nx, N⟩ σ2 H2) :=
  for_range (D := ⟨nx, rt, fun _ _ => False, fun _ _ => False⟩) Pv h0 hs hd
theorem k_while {nx : L2.St → Hp → Prop} {rt : VK} {bk ct : L2.St → Hp → Prop} {c : TT} {tb : TS} (h : ∃ W : Nat → L2.St → Hp → Prop, (∃ m, W m σ H) ∧ ∀ m σ H, W m σ H →
  c σ H fun b H1 => if b = true then ∃ N : L2.St → Hp → Prop, (∀ σ' H', N σ' H' → ∃ m', m' < m ∧ W m' σ' H') ∧ tb ⟨N, rt, nx, N⟩ σ H1 else nx σ H1) : tWhile c tb ⟨nx, rt, bk, ct⟩ σ H := h
theorem whileW {nx : L2.St → Hp → Prop} {rt : VK} {bk ct : L2.St → Hp → Prop} {c : TT} {tb : TS} (W : Nat → L2.St → Hp → Prop) {m0 : Nat} (h0 : W m0 σ H)
    (hs : ∀ m σ H, W m σ H → c σ H fun b H1 => if b = true then tb ⟨fun σ' H' => ∃ m', m' < m ∧ W m' σ' H', rt, nx, fun σ' H' => ∃ m', m' < m ∧ W m' σ' H'⟩ σ H1 else nx σ H1)
    (mono : ∀ σ H (Q Q' : Bool → Hp → Prop), (∀ b H1, Q b H1 → Q' b H1) → c σ H Q → c σ H Q') : tWhile c tb ⟨nx, rt, bk, ct⟩ σ H := by
  refine ⟨W, ⟨m0, h0⟩, fun m σ H w => mono σ H _ _ (fun b H1 q => ?_) (hs m σ H w)⟩
  cases b with
  | true => exact ⟨_, fun σ' H' h => h, q⟩
  | false => exact q
theorem k_iList {R : It → Hp → Prop} (h : te σ H fun x H1 => ∃ a, x = .ref a ∧ (∃ xs, SqL K H1 a xs) ∧ R (Itl K a) H1) : iList K te σ H R := h
theorem k_iTup {R : It → Hp → Prop} (h : te σ H fun x H1 => ∃ a, x = .ref a ∧ (∃ xs, SqT K H1 a xs) ∧ R (Itt K a) H1) : iTup K te σ H R := h
theorem k_iZip {R : It → Hp → Prop} (h : tr σ H fun vs H1 => ∃ a b xs ys, vs = [.ref a, .ref b] ∧ SqL K H1 a xs ∧ SqL K H1 b ys ∧ R (Itz K a b) H1) : iZip K tr σ H R := h
theorem k_iEnum {R : It → Hp → Prop} (h : tr σ H fun vs H1 => ∃ a xs, vs = [.ref a] ∧ SqL K H1 a xs ∧ R (Ite K a) H1) : iEnum K tr σ H R := h
theorem k_iRng1 {R : It → Hp → Prop} (h : tr σ H fun vs H1 => ∃ j : Int, vs = [.int j] ∧ -(2 ^ 62) ≤ j ∧ j < 2 ^ 62 ∧ R (Itr 0 j.toNat) H1) : iRng1 tr σ H R := h
theorem k_iRng2 {R : It → Hp → Prop} (h : tr σ H fun vs H1 => ∃ i j : Int, vs = [.int i, .int j] ∧ (-(2 ^ 62) ≤ i ∧ i < 2 ^ 62 ∧ -(2 ^ 62) ≤ j ∧ j < 2 ^ 62) ∧ R (Itr i (j - i).toNat) H1) : iRng2 tr σ H R := h
theorem k_rj1 {j : Int} {R : Int → Prop} (h1 : -(2 ^ 62) ≤ j) (h2 : j < 2 ^ 62) (h : R j) : ∃ j' : Int, [V.int j] = [.int j'] ∧ -(2 ^ 62) ≤ j' ∧ j' < 2 ^ 62 ∧ R j' := ⟨j, rfl, h1, h2, h⟩
theorem k_rj2 {i j : Int} {R : Int → Int → Prop} (h1 : -(2 ^ 62) ≤ i ∧ i < 2 ^ 62 ∧ -(2 ^ 62) ≤ j ∧ j < 2 ^ 62) (h : R i j) : ∃ i' j' : Int, [V.int i, V.int j] = [.int i', .int j'] ∧ (-(2 ^ 62) ≤ i' ∧ i' < 2 ^ 62 ∧ -(2 ^ 62) ≤ j' ∧ j' < 2 ^ 62) ∧ R i' j' := ⟨i, j, rfl, h1, h⟩
theorem k_it {c A B : Prop} [Decidable c] (h1 : c → A) (h2 : ¬ c → B) : if decide c = true then A else B := by
  by_cases h : c
  · rw [if_pos (decide_eq_true h)]; exact h1 h
  · rw [decide_eq_false h]; exact h2 h
theorem k_itn {c A B : Prop} [Decidable c] (h1 : ¬ c → A) (h2 : c → B) : if (!decide c) = true then A else B := by
  by_cases h : c
  · rw [decide_eq_true h]; exact h2 h
  · rw [decide_eq_false h]; exact h1 h
theorem k_itb {b : Bool} {A B : Prop} (h1 : b = true → A) (h2 : b = false → B) : if b = true then A else B := by
  cases b with
  | true => exact h1 rfl
  | false => exact h2 rfl
theorem k_isi {x : V} {c : String} {tx : String} {b : Bool} (ht : TyX K H x (.type tx)) (hb : kitB tx c = some b) (h : Q (.bl b) H) : rIsi K [x, .ty c] H Q := ⟨x, .ty c, .type tx, .type c, b, rfl, .ty c, ht, kit_ty hb, h⟩

theorem ty_list {p : Addr} {xs : List V} (h : SqL K H p xs) : TyX K H (.ref p) (.type "list") := by
  rcases h with (h | ⟨o, h⟩) | ⟨o, its, n, h, c, _⟩
  · exact .base (.lst h)
  · exact .base (.frz h)
  · exact .kList h c
theorem k_isiL {p : Addr} {xs : List V} (hs : SqL K H p xs) (h : Q (.bl true) H) : rIsi K [.ref p, .ty "list"] H Q := k_isi (ty_list hs) (by decide +kernel) h
theorem k_isiLI {i : Int} (h : Q (.bl false) H) : rIsi K [.int i, .ty "list"] H Q := k_isi (.base (.int i)) (by decide +kernel) h
theorem k_isiI {i : Int} (h : Q (.bl true) H) : rIsi K [.int i, .ty "int"] H Q := k_isi (.base (.int i)) (by decide +kernel) h
theorem k_isiB {i : Int} (h : Q (.bl false) H) : rIsi K [.int i, .ty "bool"] H Q := k_isi (.base (.int i)) (by decide +kernel) h
theorem inV_ints (x : Int) : ∀ ns : List Int, inV (.int x) (ns.map V.int) = decide (x ∈ ns)
  | [] => rfl
  | n :: r => by
    show (eqV (.int n) (.int x) || inV (.int x) (r.map V.int)) = decide (x ∈ n :: r)
    rw [inV_ints x r]
    show ((n == x) || decide (x ∈ r)) = decide (x ∈ n :: r)
    by_cases h : n = x
    · subst h; simp
    · have : (n == x) = false := by simp [h]
      rw [this, Bool.false_or]
      have h' : ¬ x = n := fun e => h e.symm
      simp [h']
theorem flat_ints : ∀ ns : List Int, (ns.map V.int).all flatV = true
  | [] => rfl
  | _ :: r => by show (true && (r.map V.int).all flatV) = true; rw [flat_ints r]; rfl
theorem k_inI {p : Addr} {ns : List Int} {x : Int} (hs : SqL K H p (ns.map V.int)) (h : Q (.bl (decide (x ∈ ns))) H) : rIn K false (.int x) (.ref p) H Q :=
  ⟨p, _, rfl, .inl hs, rfl, flat_ints ns, by rw [if_neg Bool.false_ne_true, inV_ints]; exact h⟩
theorem k_notInI {p : Addr} {ns : List Int} {x : Int} (hs : SqL K H p (ns.map V.int)) (h : Q (.bl (!decide (x ∈ ns))) H) : rIn K true (.int x) (.ref p) H Q :=
  ⟨p, _, rfl, .inl hs, rfl, flat_ints ns, by rw [if_pos rfl, inV_ints]; exact h⟩
theorem k_intB {b : Bool} (h : Q (.int (if b then 1 else 0)) H) : rIntOf [.bl b] H Q := .inr ⟨b, rfl, h⟩
theorem at_int {ns : List Int} {i : Int} (h0 : 0 ≤ i) (h1 : i < ns.length) : atI (ns.map V.int) i = some (.int (ns.getD i.toNat 0)) := by
  obtain ⟨k, rfl⟩ : ∃ k : Nat, i = k := ⟨i.toNat, by omega⟩
  have h : k < ns.length := by omega
  refine atI_nat ?_
  rw [List.getElem?_map]
  simp [List.getElem?_eq_getElem h, List.getD_eq_getElem?_getD]
theorem k_ixI {p : Addr} {ns : List Int} {i : Int} (hs : SqL K H p (ns.map V.int)) (h0 : 0 ≤ i) (h1 : i < ns.length) (h : Q (.int (ns.getD i.toNat 0)) H) : rIxL K (.ref p) (.int i) H Q := k_ixL hs (at_int h0 h1) h
theorem k_eqD {x y : V} {c d : PyData} {n : Nat} (hx : Dp K H x c) (hy : Dp K H y d) (h1 : Sh n c) (h2 : Sh n d) (hn : n ≤ 64) (h : Q (.bl (PyData.eqv c d)) H) : rEqD K x y H Q := ⟨c, d, hx, hy, h1.shaped hn, h2.shaped hn, h⟩
theorem k_neD {x y : V} {c d : PyData} {n : Nat} (hx : Dp K H x c) (hy : Dp K H y d) (h1 : Sh n c) (h2 : Sh n d) (hn : n ≤ 64) (h : Q (.bl (!PyData.eqv c d)) H) : rNeD K x y H Q := ⟨c, d, hx, hy, h1.shaped hn, h2.shaped hn, h⟩
theorem k_neD0 {x y : V} {c : PyData} {n : Nat} (hx : Dp K H x c) (hy : Dp K H y c) (h1 : Sh n c) (hn : n ≤ 64) (h : Q (.bl false) H) : rNeD K x y H Q := k_neD hx hy h1 h1 hn (by rw [h1.refl]; exact h)
theorem k_eqD1 {x y : V} {c : PyData} {n : Nat} (hx : Dp K H x c) (hy : Dp K H y c) (h1 : Sh n c) (hn : n ≤ 64) (h : Q (.bl true) H) : rEqD K x y H Q := k_eqD hx hy h1 h1 hn (by rw [h1.refl]; exact h)
theorem k_getI {p : Addr} {ns : List Int} {i : Int} (hs : SqL K H p (ns.map V.int)) (h0 : 0 ≤ i) (h1 : i < ns.length) (h : Q (.int (ns.getD i.toNat 0)) H) : rGetL K (.ref p) (.int i) H Q := ⟨p, _, i, _, rfl, rfl, hs, h0, at_int h0 h1, h⟩
theorem k_setI {p : Addr} {ns : List Int} {k v : Int} {QH : Hp → Prop} (hp : H p = some (.lst (ns.map V.int))) (h0 : 0 ≤ k) (h1 : k < ns.length) (h : QH (upd H p (.lst ((ns.set k.toNat v).map V.int)))) : rSetL (.ref p) (.int k) (.int v) H QH :=
  ⟨p, _, k, k.toNat, rfl, rfl, hp, ixN_of h0 (by rw [List.length_map]; exact h1), by rw [List.map_set] at h; exact h⟩
theorem k_rep {p : Addr} {xs : List V} {k : Int} (hp : H p = some (.lst xs)) (h0 : 0 ≤ k) (h1 : k < 100000) (h2 : xs.length * k.toNat ≤ 100000) (h : ∀ l, H l = none → Q (.ref l) (upd H l (.lst (List.replicate k.toNat xs).flatten))) : rRep (.ref p) (.int k) H Q := ⟨p, k, xs, rfl, rfl, hp, by omega, by omega, sz h2, h⟩
theorem k_eqB {a b : Bool} (h : Q (.bl (decide (a = b))) H) : rEq (.bl a) (.bl b) H Q := ⟨rfl, by
  have e : decide (V.bl a = V.bl b) = decide (a = b) := by cases a <;> cases b <;> decide
  rw [e]; exact h⟩
theorem k_neB {a b : Bool} (h : Q (.bl (!decide (a = b))) H) : rNe (.bl a) (.bl b) H Q := ⟨rfl, by
  have e : decide (V.bl a = V.bl b) = decide (a = b) := by cases a <;> cases b <;> decide
  rw [e]; exact h⟩
/-- new objects, the heap behind as a letter -/
theorem k_newL {xs : List V} (hn : xs.length ≤ 100000) (h : ∀ p H', H p = none → Same H H' → H' p = some (.lst xs) → Q (.ref p) H') : xs.length ≤ sizeLine ∧ ∀ p, H p = none → Q (.ref p) (upd H p (.lst xs)) :=
  ⟨sz hn, fun p np => h p _ np (same_new np) upd_same⟩
theorem k_newT {xs : List V} (hn : xs.length ≤ 100000) (h : ∀ p H', H p = none → Same H H' → H' p = some (.tup xs) → Q (.ref p) H') : xs.length ≤ sizeLine ∧ ∀ p, H p = none → Q (.ref p) (upd H p (.tup xs)) :=
  ⟨sz hn, fun p np => h p _ np (same_new np) upd_same⟩
theorem k_listN {p : Addr} {ys : List V} (hs : SqL K H p ys) (h : ∀ l H', H l = none → Same H H' → H' l = some (.lst ys) → Q (.ref l) H') : rListOf K [.ref p] H Q := k_list hs fun l nl => h l _ nl (same_new nl) upd_same
theorem k_slL {a : Addr} {xs : List V} {lo hi : Option Int} (hs : SqL K H a xs) (h : ∀ p H', H p = none → Same H H' → H' p = some (.lst (cutV xs lo hi)) → Q (.ref p) H') : rSlL K (.ref a) lo hi H Q := ⟨a, xs, rfl, hs, fun p np => h p _ np (same_new np) upd_same⟩
theorem k_sl {r : V → Option Int → Option Int → Hp → VK → Prop} {tl th : TO} (h : te σ H fun x H1 => tl σ H1 fun l H2 => th σ H2 fun u H3 => r x l u H3 Q) : tSl r te tl th σ H Q := h
theorem k_nopart {QO : Option Int → Hp → Prop} (h : QO none H) : tNoPart σ H QO := h
theorem k_part {QO : Option Int → Hp → Prop} (h : te σ H fun x H1 => ∃ i, x = .int i ∧ QO (some i) H1) : tPart te σ H QO := h
theorem k_int {i : Int} {R : Int → Prop} (h : R i) : ∃ j, V.int i = .int j ∧ R j := ⟨i, rfl, h⟩
theorem rg_ints (a b : Int) : rgV a b = ((List.range (b - a).toNat).map fun i => a + (i : Nat)).map V.int := by
  unfold rgV; rw [List.map_map]; rfl
theorem k_listRg {tg : L2.St → Hp → (Int → Int → Hp → Prop) → Prop} (h : tg σ H fun a b H1 => RgOk a b ∧ ∀ q, H1 q = none → Q (.ref q) (upd H1 q (.lst (rgV a b)))) : tLstRg tg σ H Q := h
theorem k_rg1 {QR : Int → Int → Hp → Prop} (h : ta σ H fun x H1 => ∃ n, x = .int n ∧ QR 0 n H1) : tRg1 ta σ H QR := h
theorem k_rg2 {QR : Int → Int → Hp → Prop} (h : ta σ H fun x H1 => tb σ H1 fun y H2 => ∃ i j, x = .int i ∧ y = .int j ∧ QR i j H2) : tRg2 ta tb σ H QR := h
theorem k_int2 {i j : Int} {R : Int → Int → Prop} (h : R i j) : ∃ i' j', V.int i = .int i' ∧ V.int j = .int j' ∧ R i' j' := ⟨i, j, rfl, rfl, h⟩
theorem k_rgN {a b : Int} (hr : RgOk a b) (h : ∀ p H', H p = none → Same H H' → H' p = some (.lst (rgV a b)) → Q (.ref p) H') : RgOk a b ∧ ∀ q, H q = none → Q (.ref q) (upd H q (.lst (rgV a b))) := ⟨hr, fun q nq => h q _ nq (same_new nq) upd_same⟩
theorem dp_of_int {i j : Int} (e : i = j) : Dp K H (.int i) (.int j) := e ▸ .int i
end
/-! ### heaps with some places out of sight -/
def hid (S : List Addr) (H : Hp) : Hp := fun b => if b ∈ S then none else H b
theorem hid_ne {S : List Addr} {H : Hp} {b : Addr} (h : b ∉ S) : hid S H b = H b := if_neg h
theorem hid_in {S : List Addr} {H : Hp} {b : Addr} (h : b ∈ S) : hid S H b = none := if_pos h
theorem hid_some {S : List Addr} {H : Hp} {b : Addr} {o : HO} (h : hid S H b = some o) : b ∉ S ∧ H b = some o := by
  unfold hid at h
  split at h
  · cases h
  · exact ⟨by assumption, h⟩
theorem hid_same (S : List Addr) (H : Hp) : Same (hid S H) H := fun b o h => (hid_some h).2
theorem hid_mono {S : List Addr} {H H' : Hp} (e : Same H H') : Same (hid S H) (hid S H') := fun b o h => by
  obtain ⟨n, h⟩ := hid_some h
  rw [hid_ne n]
  exact e b o h
theorem hid_sub {S S' : List Addr} {H : Hp} (h : ∀ a ∈ S, a ∈ S') : Same (hid S' H) (hid S H) := fun b o e => by
  obtain ⟨n, e⟩ := hid_some e
  rw [hid_ne fun z => n (h b z)]
  exact e
/-- a change at a hidden place -/
theorem hid_upd {S : List Addr} {H : Hp} {p : Addr} {o : HO} (h : p ∈ S) : hid S (upd H p o) = hid S H := by
  funext b
  unfold hid
  split
  · rfl
  · rename_i n
    rw [upd_ne fun e => n (by rw [e]; exact h)]
theorem same_hid_upd {S : List Addr} {H0 H : Hp} {p : Addr} {o : HO} (e : Same H0 (hid S H)) (h : p ∈ S) : Same H0 (hid S (upd H p o)) := by rw [hid_upd h]; exact e
/-- what the law's data says stays when a fresh object is changed -/
theorem same_hid_mut {S : List Addr} {H0 H : Hp} {p : Addr} {o : HO} (e : Same H0 (hid S H)) (h : H0 p = none) : Same H0 (hid S (upd H p o)) := fun b u hb => by
  have := e b u hb
  obtain ⟨n, q⟩ := hid_some this
  rw [hid_ne n, upd_ne (ne_of_none hb h)]
  exact q
theorem hid_more {S S' : List Addr} {H H' : Hp} (e : Same (hid S H) (hid S H')) (h : ∀ a ∈ S, a ∈ S') : Same (hid S' H) (hid S' H') := fun b o hb => by
  obtain ⟨n, q⟩ := hid_some hb
  have n' : b ∉ S := fun z => n (h b z)
  have := e b o (by rw [hid_ne n']; exact q)
  rw [hid_ne n'] at this
  rw [hid_ne n]
  exact this
theorem same_hid_new {S : List Addr} {H : Hp} {p : Addr} {o : HO} (h : H p = none) : Same (hid S H) (hid S (upd H p o)) := hid_mono (same_new h)

theorem same_of_hid {S : List Addr} {H0 H1 H2 : Hp} (h : Same H0 H1) (f : ∀ a ∈ S, H0 a = none) (e : Same (hid S H1) (hid S H2)) : Same H0 H2 := fun b o hb => by
  have n : b ∉ S := fun z => by rw [f b z] at hb; cases hb
  have := e b o (by rw [hid_ne n]; exact h b o hb)
  rw [hid_ne n] at this
  exact this
theorem free1 {H0 : Hp} {p : Addr} (h : H0 p = none) : ∀ a ∈ [p], H0 a = none := fun a z => by rw [List.mem_singleton.mp z]; exact h
theorem cutTo {ns : List Int} (k : Nat) : cutV (ns.map V.int) none (some (k : Int)) = (ns.take k).map V.int := by
  unfold cutV
  rw [HT.sIx_none, HT.sIx_nat, List.drop_zero, List.length_map, Nat.sub_zero, List.map_take]
  by_cases h : k ≤ ns.length
  · rw [Nat.min_eq_left h]
  · rw [Nat.min_eq_right (by omega), List.take_of_length_le (by simp), List.take_of_length_le (by simp; omega)]
/-! ### the law's purse: a list of the cells and the turn -/
structure Pu (H : Hp) (pu ce : Addr) (n : Nat) (t : Int) : Prop where
  hp : H pu = some (.lst [.ref ce, .int t])
  hc : ∃ cs : List Int, cs.length = n ∧ H ce = some (.lst (cs.map V.int))
  n0 : 0 < n
  n1 : n ≤ 63
  t0 : 0 ≤ t
theorem Pu.ne {H : Hp} {pu ce : Addr} {n : Nat} {t : Int} (h : Pu H pu ce n t) : pu ≠ ce := fun e => by
  obtain ⟨cs, hl, hc⟩ := h.hc
  have hp := h.hp
  rw [e, hc] at hp
  cases cs with
  | nil => injection hp with hp; injection hp with hp; cases hp
  | cons x r => injection hp with hp; injection hp with hp; injection hp with h1 h2; cases h1
theorem Pu.fresh {H : Hp} {pu ce : Addr} {n : Nat} {t : Int} (h : Pu H pu ce n t) {p : Addr} (np : H p = none) : p ∉ [pu, ce] := fun z => by
  obtain ⟨cs, hl, hc⟩ := h.hc
  rcases List.mem_cons.mp z with rfl | z
  · rw [h.hp] at np; cases np
  · rcases List.mem_cons.mp z with rfl | z
    · rw [hc] at np; cases np
    · cases z
theorem Pu.upd {H : Hp} {pu ce : Addr} {n : Nat} {t : Int} (h : Pu H pu ce n t) {p : Addr} {o : HO} (np : p ∉ [pu, ce]) : Pu (upd H p o) pu ce n t := by
  have h1 : pu ≠ p := fun e => np (by rw [e]; exact List.mem_cons_self)
  have h2 : ce ≠ p := fun e => np (by rw [e]; exact List.mem_cons_of_mem _ List.mem_cons_self)
  obtain ⟨cs, hl, hc⟩ := h.hc
  exact ⟨by rw [upd_ne h1]; exact h.hp, ⟨cs, hl, by rw [upd_ne h2]; exact hc⟩, h.n0, h.n1, h.t0⟩
theorem Pu.same {H H' : Hp} {pu ce : Addr} {n : Nat} {t : Int} (h : Pu H pu ce n t) (e : Same H H') : Pu H' pu ce n t := by
  obtain ⟨cs, hl, hc⟩ := h.hc
  exact ⟨e _ _ h.hp, ⟨cs, hl, e _ _ hc⟩, h.n0, h.n1, h.t0⟩
/-- an object that is none of the purse's stays as it is -/
theorem keeps {S : List Addr} {H H' : Hp} (e : Same (hid S H) (hid S H')) {b : Addr} {o : HO} (hb : H b = some o) (n : b ∉ S) : H' b = some o := by
  have := e b o (by rw [hid_ne n]; exact hb)
  rw [hid_ne n] at this
  exact this
theorem fresh_hid {S : List Addr} {H H' : Hp} (e : Same (hid S H) (hid S H')) {b : Addr} (hb : H' b = none) (n : b ∉ S) : H b = none := by
  have := e.free (l := b) (by rw [hid_ne n]; exact hb)
  rw [hid_ne n] at this
  exact this
theorem getD_set_len {α : Type} (l : List α) (i : Nat) (v : α) : (l.set i v).length = l.length := List.length_set
theorem map_set_int (cs : List Int) (i : Nat) (v : Int) : (cs.map V.int).set i (.int v) = (cs.set i v).map V.int := by rw [List.map_set]

/-! ### the law's other purse: [a number, a mark, how many were drawn] -/
structure Le (H : Hp) (pu : Addr) (k : Int) : Prop where
  hp : ∃ x f : Int, H pu = some (.lst [.int x, .int f, .int k]) ∧ (f = 0 → 0 ≤ x ∧ x < 2147483629)
  k0 : 0 ≤ k
theorem Le.fresh {H : Hp} {pu : Addr} {k : Int} (h : Le H pu k) {p : Addr} (np : H p = none) : p ∉ [pu] := fun z => by
  obtain ⟨x, f, hp, _⟩ := h.hp
  rw [List.mem_singleton.mp z, hp] at np
  cases np
theorem Le.upd {H : Hp} {pu : Addr} {k : Int} (h : Le H pu k) {p : Addr} {o : HO} (np : p ∉ [pu]) : Le (upd H p o) pu k := by
  obtain ⟨x, f, hp, hx⟩ := h.hp
  exact ⟨⟨x, f, by rw [upd_ne fun e => np (by rw [e]; exact List.mem_singleton.mpr rfl)]; exact hp, hx⟩, h.k0⟩
theorem Le.same {H H' : Hp} {pu : Addr} {k : Int} (h : Le H pu k) (e : Same H H') : Le H' pu k := by
  obtain ⟨x, f, hp, hx⟩ := h.hp
  exact ⟨⟨x, f, e _ _ hp, hx⟩, h.k0⟩

/-! ### comprehensions whose block leaves the heap as it is -/
section
variable {K : PySem.W.Frag} {σ : L2.St} {H1 : Hp} {Q : VK} {g : TG} {tt : TT} {te : TE} {vs : List Nat}
theorem k_lc {wi : TI} (h : wi σ H1 fun J H1 => ∀ D, H1 D = none → ∃ W : Nat → Nat → Hp → Prop, (∃ m, W 0 m (upd H1 D (.lst []))) ∧ ∀ i m H, W i m H →
  (J.stop i H ∧ Q (.ref D) H) ∨ (J.go i H ∧ ∃ Nx : Hp → Prop, (∀ H', Nx H' → ∃ m', m' < m ∧ W (i + 1) m' H') ∧ ∀ x H', J.yld i H x H' → g x (wipe σ vs) H' fun σ2 H2 => wipe σ2 vs = wipe σ vs ∧ tt σ2 H2 fun b H3 =>
    if b = true then te σ2 H3 fun y H4 => ∃ acc, H4 D = some (.lst acc) ∧ acc.length < sizeLine ∧ Nx (upd H4 D (.lst (acc ++ [y]))) else Nx H3)) : tLc wi g tt te vs σ H1 Q := h
theorem k_wipe {σ' : L2.St} {R : Prop} (e : wipe σ' vs = wipe σ vs) (h : R) : wipe σ' vs = wipe σ vs ∧ R := ⟨e, h⟩
theorem k_yes {QT : Bool → Hp → Prop} (h : QT true H1) : tYes σ H1 QT := h
theorem take_filterMap {α β : Type} {f : α → Option β} {ps : List α} {i : Nat} {p : α} (h : ps[i]? = some p) : (ps.take (i + 1)).filterMap f = (ps.take i).filterMap f ++ (f p).toList := by
  rw [List.take_add_one, h, List.filterMap_append]
  simp [List.filterMap_cons]
  cases f p <;> rfl
/-- over a list of which ps tells the items -/
theorem lc_pure {QD : Addr → Hp → Prop} {α : Type} {a : Addr} {xs : List V} (hs : SqL K H1 a xs) (ps : List α) (hl : xs.length = ps.length) (hz : ps.length ≤ 50000) (f : α → Option V)
    (step : ∀ (i : Nat) x p H', xs[i]? = some x → ps[i]? = some p → Same H1 H' → ∀ (R : V → Hp → Prop) (R0 : Hp → Prop), (∀ y, f p = some y → R y H') → (f p = none → R0 H') →
      g x (wipe σ vs) H' fun σ2 H2 => wipe σ2 vs = wipe σ vs ∧ tt σ2 H2 fun b H3 => if b = true then te σ2 H3 R else R0 H3)
    (h : ∀ D H', H1 D = none → Same H1 H' → H' D = some (.lst (ps.filterMap f)) → QD D H') :
    ∃ a', V.ref a = .ref a' ∧ (∃ xs, SqL K H1 a' xs) ∧ ∀ D, H1 D = none → ∃ W : Nat → Nat → Hp → Prop, (∃ m, W 0 m (upd H1 D (.lst []))) ∧ ∀ i m H, W i m H →
      ((Itl K a').stop i H ∧ QD D H) ∨ ((Itl K a').go i H ∧ ∃ Nx : Hp → Prop, (∀ H', Nx H' → ∃ m', m' < m ∧ W (i + 1) m' H') ∧ ∀ x H', (Itl K a').yld i H x H' → g x (wipe σ vs) H' fun σ2 H2 => wipe σ2 vs = wipe σ vs ∧ tt σ2 H2 fun b H3 =>
        if b = true then te σ2 H3 fun y H4 => ∃ acc, H4 D = some (.lst acc) ∧ acc.length < sizeLine ∧ Nx (upd H4 D (.lst (acc ++ [y]))) else Nx H3) := by
  refine ⟨a, rfl, ⟨xs, hs⟩, fun D nD => lc_list (xs := xs) (fun i H => Same H1 H ∧ H D = some (.lst ((ps.take i).filterMap f))) ⟨same_new nD, by rw [upd_same]; simp⟩ (fun i H _ e => e.1.seq hs) ?_ ?_⟩
  · rintro i x H hx ⟨sm, hD⟩
    have hi : i < xs.length := (List.getElem?_eq_some_iff.mp hx).1
    obtain ⟨p, hp⟩ : ∃ p, ps[i]? = some p := ⟨ps[i]'(by omega), List.getElem?_eq_getElem (by omega)⟩
    have tk := take_filterMap (f := f) hp
    refine step i x p H hx hp sm _ _ (fun y hy => ⟨_, hD, szl ?_, same_mut sm nD, ?_⟩) (fun hn => ⟨sm, ?_⟩)
    · have := List.length_filterMap_le f (ps.take i)
      rw [List.length_take] at this
      omega
    · rw [upd_same, tk, hy]; rfl
    · rw [tk, hn, hD]; simp
  · rintro H ⟨sm, hD⟩
    rw [hl, List.take_length] at hD
    exact h D H nD sm hD
/-- the same where a turn may make new objects -/
theorem lc_grow {QD : Addr → Hp → Prop} {α : Type} {a : Addr} {xs : List V} (hs : SqL K H1 a xs) (ps : List α) (hl : xs.length = ps.length) (hz : ps.length ≤ 50000) (f : α → Option V)
    (step : ∀ (i : Nat) x p H', xs[i]? = some x → ps[i]? = some p → Same H1 H' → ∀ (R : V → Hp → Prop) (R0 : Hp → Prop), (∀ y H'', f p = some y → Same H' H'' → R y H'') → (∀ H'', f p = none → Same H' H'' → R0 H'') →
      g x (wipe σ vs) H' fun σ2 H2 => wipe σ2 vs = wipe σ vs ∧ tt σ2 H2 fun b H3 => if b = true then te σ2 H3 R else R0 H3)
    (h : ∀ D H', H1 D = none → Same H1 H' → H' D = some (.lst (ps.filterMap f)) → QD D H') :
    ∃ a', V.ref a = .ref a' ∧ (∃ xs, SqL K H1 a' xs) ∧ ∀ D, H1 D = none → ∃ W : Nat → Nat → Hp → Prop, (∃ m, W 0 m (upd H1 D (.lst []))) ∧ ∀ i m H, W i m H →
      ((Itl K a').stop i H ∧ QD D H) ∨ ((Itl K a').go i H ∧ ∃ Nx : Hp → Prop, (∀ H', Nx H' → ∃ m', m' < m ∧ W (i + 1) m' H') ∧ ∀ x H', (Itl K a').yld i H x H' → g x (wipe σ vs) H' fun σ2 H2 => wipe σ2 vs = wipe σ vs ∧ tt σ2 H2 fun b H3 =>
        if b = true then te σ2 H3 fun y H4 => ∃ acc, H4 D = some (.lst acc) ∧ acc.length < sizeLine ∧ Nx (upd H4 D (.lst (acc ++ [y]))) else Nx H3) := by
  refine ⟨a, rfl, ⟨xs, hs⟩, fun D nD => lc_list (xs := xs) (fun i H => Same H1 H ∧ H D = some (.lst ((ps.take i).filterMap f))) ⟨same_new nD, by rw [upd_same]; simp⟩ (fun i H _ e => e.1.seq hs) ?_ ?_⟩
  · rintro i x H hx ⟨sm, hD⟩
    have hi : i < xs.length := (List.getElem?_eq_some_iff.mp hx).1
    obtain ⟨p, hp⟩ : ∃ p, ps[i]? = some p := ⟨ps[i]'(by omega), List.getElem?_eq_getElem (by omega)⟩
    have tk := take_filterMap (f := f) hp
    refine step i x p H hx hp sm _ _ (fun y H'' hy s2 => ⟨_, s2 _ _ hD, szl ?_, same_mut (sm.trans s2) nD, ?_⟩) (fun H'' hn s2 => ⟨sm.trans s2, ?_⟩)
    · have := List.length_filterMap_le f (ps.take i)
      rw [List.length_take] at this
      omega
    · rw [upd_same, tk, hy]; rfl
    · rw [tk, hn, s2 _ _ hD]; simp
  · rintro H ⟨sm, hD⟩
    rw [hl, List.take_length] at hD
    exact h D H nD sm hD
theorem range_take {n i : Nat} (h : i < n) : (List.range n)[i]? = some i := by simp [h]
/-- over a range -/
theorem lc_pureR {QD : Addr → Hp → Prop} {lo : Int} {n : Nat} (hz : n ≤ 50000) (f : Nat → Option V)
    (step : ∀ (i : Nat) H', i < n → Same H1 H' → ∀ (R : V → Hp → Prop) (R0 : Hp → Prop), (∀ y, f i = some y → R y H') → (f i = none → R0 H') →
      g (.int (lo + (i : Nat))) (wipe σ vs) H' fun σ2 H2 => wipe σ2 vs = wipe σ vs ∧ tt σ2 H2 fun b H3 => if b = true then te σ2 H3 R else R0 H3)
    (h : ∀ D H', H1 D = none → Same H1 H' → H' D = some (.lst ((List.range n).filterMap f)) → QD D H') :
    ∀ D, H1 D = none → ∃ W : Nat → Nat → Hp → Prop, (∃ m, W 0 m (upd H1 D (.lst []))) ∧ ∀ i m H, W i m H →
      ((Itr lo n).stop i H ∧ QD D H) ∨ ((Itr lo n).go i H ∧ ∃ Nx : Hp → Prop, (∀ H', Nx H' → ∃ m', m' < m ∧ W (i + 1) m' H') ∧ ∀ x H', (Itr lo n).yld i H x H' → g x (wipe σ vs) H' fun σ2 H2 => wipe σ2 vs = wipe σ vs ∧ tt σ2 H2 fun b H3 =>
        if b = true then te σ2 H3 fun y H4 => ∃ acc, H4 D = some (.lst acc) ∧ acc.length < sizeLine ∧ Nx (upd H4 D (.lst (acc ++ [y]))) else Nx H3) := by
  refine fun D nD => lc_range (fun i H => Same H1 H ∧ H D = some (.lst (((List.range n).take i).filterMap f))) ⟨same_new nD, by rw [upd_same]; simp⟩ ?_ ?_
  · rintro i H hi ⟨sm, hD⟩
    have tk := take_filterMap (f := f) (range_take hi)
    refine step i H hi sm _ _ (fun y hy => ⟨_, hD, szl ?_, same_mut sm nD, ?_⟩) (fun hn => ⟨sm, ?_⟩)
    · have := List.length_filterMap_le f ((List.range n).take i)
      rw [List.length_take, List.length_range] at this
      omega
    · rw [upd_same, tk, hy]; rfl
    · rw [tk, hn, hD]; simp
  · rintro H ⟨sm, hD⟩
    rw [List.take_of_length_le (by simp)] at hD
    exact h D H nD sm hD
end
/-! ### min, max of a pair -/
def rMinT (K : PySem.W.Frag) : List V → Hp → VK → Prop := fun xs H Q => ∃ (p : Addr) (a b : Int), xs = [.ref p] ∧ SqT K H p [.int a, .int b] ∧ Q (.int (min a b)) H
def rMaxT (K : PySem.W.Frag) : List V → Hp → VK → Prop := fun xs H Q => ∃ (p : Addr) (a b : Int), xs = [.ref p] ∧ SqT K H p [.int a, .int b] ∧ Q (.int (max a b)) H
theorem reads_int {h : Heap} {v : Value} {n : Int} {as : List Addr} (r : Reads h v (.int n) as) : ∃ t, v = .int n t := by
  cases r; exact ⟨_, rfl⟩
theorem alike2 (a b : Int) : PySem.W.AlikeAll [.int a, .int b] := by
  refine ⟨fun x hx y hy => ?_, fun x hx => ?_⟩
  · simp only [List.mem_cons, List.not_mem_nil, or_false] at hx hy
    rcases hx with rfl | rfl <;> rcases hy with rfl | rfl <;> rfl
  · simp only [List.mem_cons, List.not_mem_nil, or_false] at hx
    rcases hx with rfl | rfl <;> (intro z; cases z)
theorem q_minT {X : Cx} (hc : X.calm = true) (hu : X.A.units + 64 < cLine) : CallR X (.builtin "min") (rMinT X.K) := by
  intro pins s σ H vs us Q I r h
  obtain ⟨p, a, b, rfl, hs, q⟩ := h
  obtain ⟨its, rv, hl, _⟩ := I.tuple hs
  rw [Vals.ref1 r]
  have ri : IntsAre its [a, b] := Vals.ints (ns := [a, b]) rv
  refine PySem.W.min_tuple_data (x := .int a) (xs := [.int b]) (as := []) (I.ok.hd hc) hl (ri.reads _) (alike2 a b) ?_ fun i v h' tk bs hi rd hk => ?_
  · have : PyData.depthAll [.int a, .int b] = 0 := rfl
    omega
  · rw [show PySem.W.minD (.int a) [.int b] = .int (min a b) from PySem.W.minD_ints a [b]] at rd
    obtain ⟨t, rfl⟩ := reads_int rd
    exact ⟨.int _, H, I.kept hk, ⟨_, rfl⟩, q⟩
theorem q_maxT {X : Cx} (hc : X.calm = true) (hu : X.A.units + 64 < cLine) : CallR X (.builtin "max") (rMaxT X.K) := by
  intro pins s σ H vs us Q I r h
  obtain ⟨p, a, b, rfl, hs, q⟩ := h
  obtain ⟨its, rv, hl, _⟩ := I.tuple hs
  rw [Vals.ref1 r]
  have ri : IntsAre its [a, b] := Vals.ints (ns := [a, b]) rv
  refine PySem.W.max_tuple_data (x := .int a) (xs := [.int b]) (as := []) (I.ok.hd hc) hl (ri.reads _) (alike2 a b) ?_ fun i v h' tk bs hi rd hk => ?_
  · have : PyData.depthAll [.int a, .int b] = 0 := rfl
    omega
  · rw [show PySem.W.maxD (.int a) [.int b] = .int (max a b) from PySem.W.maxD_ints a [b]] at rd
    obtain ⟨t, rfl⟩ := reads_int rd
    exact ⟨.int _, H, I.kept hk, ⟨_, rfl⟩, q⟩
theorem k_minT {K : PySem.W.Frag} {H : Hp} {Q : VK} {p : Addr} {a b : Int} (hs : SqT K H p [.int a, .int b]) (h : Q (.int (min a b)) H) : rMinT K [.ref p] H Q := ⟨p, a, b, rfl, hs, h⟩
theorem k_maxT {K : PySem.W.Frag} {H : Hp} {Q : VK} {p : Addr} {a b : Int} (hs : SqT K H p [.int a, .int b]) (h : Q (.int (max a b)) H) : rMaxT K [.ref p] H Q := ⟨p, a, b, rfl, hs, h⟩
end Cm

namespace Cm
open PySem PySem.Spec PyProof.Rows L2
/-! ### steps of a reading, found by instances -/
class Stp (p : Prop) (q : outParam Prop) : Prop where
  run : q → p
class Stps (p : Prop) (q : outParam Prop) : Prop where
  run : q → p
class Stps1 (p : Prop) (q : outParam Prop) : Prop where
  run : q → p
instance (priority := low) stps_nil {p : Prop} : Stps p p := ⟨id⟩
instance (priority := high) stps_cons {p q r : Prop} [a : Stp p q] [b : Stps q r] : Stps p r := ⟨fun h => a.run (b.run h)⟩
instance stps_one {p q r : Prop} [a : Stp p q] [b : Stps q r] : Stps1 p r := ⟨fun h => a.run (b.run h)⟩
theorem go {p q : Prop} [a : Stps1 p q] (h : q) : p := a.run h
class Slot (σ : L2.St) (i : Nat) (v : outParam V) : Prop where
  get : σ[i]? = some (some v)
instance {v : V} {r : L2.St} : Slot (some v :: r) 0 v := ⟨rfl⟩
instance {x : Option V} {v : V} {r : L2.St} {i : Nat} [a : Slot r i v] : Slot (x :: r) (i + 1) v := ⟨a.get⟩
class Put (σ : L2.St) (i : Nat) (v : Option V) (σ' : outParam L2.St) : Prop where
  eq : σ.set i v = σ'
instance {x v : Option V} {r : L2.St} : Put (x :: r) 0 v (v :: r) := ⟨rfl⟩
instance {x v : Option V} {r r' : L2.St} {i : Nat} [a : Put r i v r'] : Put (x :: r) (i + 1) v (x :: r') := ⟨by rw [List.set_cons_succ, a.eq]⟩
instance {σ σ0 σ' : L2.St} {j : Nat} {w : Option V} {i : Nat} {v : Option V} [a : Put σ j w σ0] [b : Put σ0 i v σ'] : Put (List.set σ j w) i v σ' := ⟨by rw [a.eq, b.eq]⟩
instance {σ σ0 : L2.St} {j : Nat} {w : Option V} {i : Nat} {v : V} [a : Put σ j w σ0] [b : Slot σ0 i v] : Slot (List.set σ j w) i v := ⟨by rw [a.eq, b.get]⟩
class Wip (σ : L2.St) (vs : List Nat) (σ' : outParam L2.St) : Prop where
  eq : wipe σ vs = σ'
instance {σ : L2.St} : Wip σ [] σ := ⟨rfl⟩
instance {σ σ' σ'' : L2.St} {i : Nat} {vs : List Nat} [b : Wip σ vs σ'] [a : Put σ' i none σ''] : Wip σ (i :: vs) σ'' := ⟨by
  show (wipe σ vs).set i none = σ''
  rw [b.eq, a.eq]⟩
instance {σ σ0 σ' : L2.St} {vs : List Nat} {i : Nat} {v : Option V} [a : Wip σ vs σ0] [b : Put σ0 i v σ'] : Put (wipe σ vs) i v σ' := ⟨by rw [a.eq, b.eq]⟩
/-- a new list, a new tuple -/
def newL (xs : List V) (H : Hp) (Q : VK) : Prop := xs.length ≤ sizeLine ∧ ∀ p, H p = none → Q (.ref p) (upd H p (.lst xs))
def newT (xs : List V) (H : Hp) (Q : VK) : Prop := xs.length ≤ sizeLine ∧ ∀ p, H p = none → Q (.ref p) (upd H p (.tup xs))
def newR (a b : Int) (H : Hp) (Q : VK) : Prop := RgOk a b ∧ ∀ q, H q = none → Q (.ref q) (upd H q (.lst (rgV a b)))
theorem kL {xs : List V} {H : Hp} {Q : VK} (hn : xs.length ≤ 100000) (h : ∀ p H', H p = none → Same H H' → H' p = some (.lst xs) → Q (.ref p) H') : newL xs H Q := ⟨sz hn, fun p np => h p _ np (same_new np) upd_same⟩
theorem kT {xs : List V} {H : Hp} {Q : VK} (hn : xs.length ≤ 100000) (h : ∀ p H', H p = none → Same H H' → H' p = some (.tup xs) → Q (.ref p) H') : newT xs H Q := ⟨sz hn, fun p np => h p _ np (same_new np) upd_same⟩
theorem kR {a b : Int} {H : Hp} {Q : VK} (hr : RgOk a b) (h : ∀ p H', H p = none → Same H H' → H' p = some (.lst (rgV a b)) → Q (.ref p) H') : newR a b H Q := ⟨hr, fun q nq => h q _ nq (same_new nq) upd_same⟩
section
variable {K : PySem.W.Frag} {σ σ' : L2.St} {H : Hp} {D : Ends} {Q : VK} {ta tb tc te to ti : TE} {t u : TT} {s1 s2 : TS} {QT : Bool → Hp → Prop} {QA : List V → Hp → Prop} {tr : TA} {QS : L2.St → Hp → Prop} {nx bk ct : L2.St → Hp → Prop} {rt : VK} {g : TG} {gs : TGs} {i j : Nat} {v w : V} {a b : Int} {wi : TI} {tS : TS}
instance : Stp (tSeq s1 s2 ⟨nx, rt, bk, ct⟩ σ H) (s1 ⟨s2 ⟨nx, rt, bk, ct⟩, rt, bk, ct⟩ σ H) := ⟨k_seq⟩
instance : Stp (tNext ⟨nx, rt, bk, ct⟩ σ H) (nx σ H) := ⟨k_next⟩
instance : Stp (tCont ⟨nx, rt, bk, ct⟩ σ H) (ct σ H) := ⟨k_cont⟩
instance : Stp (tBreak ⟨nx, rt, bk, ct⟩ σ H) (bk σ H) := ⟨k_brk⟩
instance : Stp (tAsg te g ⟨nx, rt, bk, ct⟩ σ H) (te σ H fun x H1 => g x σ H1 nx) := ⟨k_asg⟩
instance : Stp (tDrop te ⟨nx, rt, bk, ct⟩ σ H) (te σ H fun _ H1 => nx σ H1) := ⟨k_drop⟩
instance : Stp (tRet te ⟨nx, rt, bk, ct⟩ σ H) (te σ H rt) := ⟨k_ret⟩
instance : Stp (tRetN ⟨nx, rt, bk, ct⟩ σ H) (rt .non H) := ⟨k_retN⟩
instance {f : Int → Int → Int} [e : Slot σ i (.int a)] : Stp (tAug i te (ipI f) ⟨nx, rt, bk, ct⟩ σ H) (te σ H fun y H1 => ipI f (.int a) y H1 fun z H2 => gName i z σ H2 nx) := ⟨fun h => k_aug e.get h⟩
instance {f : Int → Int → Int} : Stp (ipI f (.int a) (.int b) H Q) (Q (.int (f a b)) H) := ⟨k_ipI⟩
instance : Stp (xAugL K to ti te ⟨nx, rt, bk, ct⟩ σ H) (to σ H fun o H1 => ti σ H1 fun i H2 => rGetL K o i H2 fun x H3 => te σ H3 fun y H4 => ipI (fun i j => i + j) x y H4 fun z H5 => rSetL o i z H5 fun H6 => nx σ H6) := ⟨k_augL⟩
instance : Stp (tIfS t s1 s2 D σ H) (t σ H fun b H1 => if b = true then s1 D σ H1 else s2 D σ H1) := ⟨k_if⟩
instance [e : Slot σ i v] : Stp (tVar i σ H Q) (Q v H) := ⟨fun h => k_var e.get h⟩
instance : Stp (tC v σ H Q) (Q v H) := ⟨k_c⟩
instance {r : R2} : Stp (tOp r ta tb σ H Q) (ta σ H fun x H1 => tb σ H1 fun y H2 => r x y H2 Q) := ⟨k_op⟩
instance {r : V → Hp → VK → Prop} : Stp (tUn r ta σ H Q) (ta σ H fun x H1 => r x H1 Q) := ⟨k_un⟩
instance : Stp (xAdd (.int a) (.int b) H Q) (Q (.int (a + b)) H) := ⟨k_add⟩
instance : Stp (xSub (.int a) (.int b) H Q) (Q (.int (a - b)) H) := ⟨k_sub⟩
instance : Stp (xLt (.int a) (.int b) H Q) (Q (.bl (decide (a < b))) H) := ⟨k_lt⟩
instance : Stp (xLe (.int a) (.int b) H Q) (Q (.bl (decide (a ≤ b))) H) := ⟨k_le⟩
instance : Stp (xGt (.int a) (.int b) H Q) (Q (.bl (decide (b < a))) H) := ⟨k_gt⟩
instance : Stp (xGe (.int a) (.int b) H Q) (Q (.bl (decide (b ≤ a))) H) := ⟨k_ge⟩
instance : Stp (xNeg (.int a) H Q) (Q (.int (-a)) H) := ⟨k_neg⟩
instance : Stp (rEq (.int a) (.int b) H Q) (Q (.bl (decide (a = b))) H) := ⟨k_eqI⟩
instance : Stp (rNe (.int a) (.int b) H Q) (Q (.bl (!decide (a = b))) H) := ⟨k_neI⟩
instance {a b : Bool} : Stp (rEq (.bl a) (.bl b) H Q) (Q (.bl (decide (a = b))) H) := ⟨k_eqB⟩
instance {a b : Bool} : Stp (rNe (.bl a) (.bl b) H Q) (Q (.bl (!decide (a = b))) H) := ⟨k_neB⟩
theorem k_eqNN (h : Q (.bl true) H) : rEq .non .non H Q := ⟨rfl, h⟩
theorem k_isN0 (h : Q (.bl true) H) : xIsN .non .non H Q := ⟨rfl, h⟩
theorem k_isNr {p : Addr} (h : Q (.bl false) H) : xIsN (.ref p) .non H Q := ⟨rfl, by rw [decide_eq_false (by intro z; cases z)]; exact h⟩
theorem k_isNi (h : Q (.bl false) H) : xIsN (.int a) .non H Q := ⟨rfl, by rw [decide_eq_false (by intro z; cases z)]; exact h⟩
theorem k_notN0 (h : Q (.bl false) H) : xNotN .non .non H Q := ⟨rfl, h⟩
theorem k_notNr {p : Addr} (h : Q (.bl true) H) : xNotN (.ref p) .non H Q := ⟨rfl, by rw [decide_eq_false (by intro z; cases z)]; exact h⟩
theorem k_notNi (h : Q (.bl true) H) : xNotN (.int a) .non H Q := ⟨rfl, by rw [decide_eq_false (by intro z; cases z)]; exact h⟩
instance : Stp (xIsN .non .non H Q) (Q (.bl true) H) := ⟨k_isN0⟩
instance {p : Addr} : Stp (xIsN (.ref p) .non H Q) (Q (.bl false) H) := ⟨k_isNr⟩
instance : Stp (xIsN (.int a) .non H Q) (Q (.bl false) H) := ⟨k_isNi⟩
instance : Stp (xNotN .non .non H Q) (Q (.bl false) H) := ⟨k_notN0⟩
instance {p : Addr} : Stp (xNotN (.ref p) .non H Q) (Q (.bl true) H) := ⟨k_notNr⟩
instance : Stp (xNotN (.int a) .non H Q) (Q (.bl true) H) := ⟨k_notNi⟩
instance : Stp (tTest te σ H QT) (te σ H fun x H1 => ∃ k, x = .bl k ∧ QT k H1) := ⟨k_test⟩
instance : Stp (tB te σ H QT) (te σ H fun x H1 => ∃ k, x = .bl k ∧ QT k H1) := ⟨k_B⟩
instance {b : Bool} {R : Bool → Prop} : Stp (∃ k, V.bl b = .bl k ∧ R k) (R b) := ⟨k_bl⟩
instance {R : Int → Prop} : Stp (∃ j, V.int a = .int j ∧ R j) (R a) := ⟨k_int⟩
instance {R : Int → Int → Prop} : Stp (∃ i' j', V.int a = .int i' ∧ V.int b = .int j' ∧ R i' j') (R a b) := ⟨k_int2⟩
instance : Stp (tAnd t u σ H QT) (t σ H fun c H1 => if c = true then u σ H1 QT else QT false H1) := ⟨k_and⟩
instance : Stp (tOr t u σ H QT) (t σ H fun c H1 => if c = true then QT true H1 else u σ H1 QT) := ⟨k_or⟩
instance : Stp (tNot t σ H QT) (t σ H fun c H1 => QT (!c) H1) := ⟨k_not⟩
instance : Stp (tNotV ta σ H Q) (ta σ H fun x H1 => ∃ c, x = .bl c ∧ Q (.bl (!c)) H1) := ⟨k_notV⟩
instance : Stp (tAndV ta tb σ H Q) (ta σ H fun x H1 => ∃ c, x = .bl c ∧ if c = true then tb σ H1 Q else Q (.bl false) H1) := ⟨k_andV⟩
instance : Stp (tOrV ta tb σ H Q) (ta σ H fun x H1 => ∃ c, x = .bl c ∧ if c = true then Q (.bl true) H1 else tb σ H1 Q) := ⟨k_orV⟩
instance {r : List V → Hp → VK → Prop} : Stp (tCB r tr σ H Q) (tr σ H fun vs H1 => r vs H1 Q) := ⟨k_cb⟩
instance : Stp (tNil σ H QA) (QA [] H) := ⟨k_nil⟩
instance : Stp (tCons ta tr σ H QA) (ta σ H fun x H1 => tr σ H1 fun xs H2 => QA (x :: xs) H2) := ⟨k_cons⟩
instance {sp : Sp} {E : XK} : Stp (tCall sp [] E tr σ H Q) (tr σ H fun vs H1 => sp vs H1 Q E) := ⟨fun h => k_call (by simpa only [List.append_nil] using h)⟩
instance : Stp (tLst tr σ H Q) (tr σ H fun xs H1 => newL xs H1 Q) := ⟨k_lst⟩
instance : Stp (tTup tr σ H Q) (tr σ H fun xs H1 => newT xs H1 Q) := ⟨k_tup⟩
instance {r : List V} : Stp (gCons g gs (v :: r) σ H QS) (g v σ H fun σ' H' => gs r σ' H' QS) := ⟨k_gcons⟩
instance : Stp (gNil [] σ H QS) (QS σ H) := ⟨k_gnil⟩
instance [e : Put σ i (some v) σ'] : Stp (gName i v σ H QS) (QS σ' H) := ⟨fun h => k_gname (by rw [e.eq]; exact h)⟩
instance {ts : TSet} : Stp (gSub to ti ts v σ H QS) (to σ H fun o H1 => ti σ H1 fun i H2 => ts o i v H2 fun H3 => QS σ H3) := ⟨k_gsub⟩
instance : Stp (rMax2 [.int a, .int b] H Q) (Q (.int (if b > a then b else a)) H) := ⟨k_max2⟩
instance : Stp (rMin2 [.int a, .int b] H Q) (Q (.int (if b < a then b else a)) H) := ⟨k_min2⟩
instance {T : String} {r : V → List V → Hp → VK → Prop} : Stp (tBM K T r ta tr σ H Q) (ta σ H fun x H1 => tyV K T x H1 ∧ tr σ H1 fun xs H2 => r x xs H2 Q) := ⟨k_bm⟩
instance {T : String} {r : V → List V → Hp → VK → Prop} : Stp (tBM0 K T r ta σ H Q) (ta σ H fun x H1 => tyV K T x H1 ∧ r x [] H1 Q) := ⟨k_bm0⟩
instance {A B : Prop} {i : Decidable (true = true)} : Stp (@ite Prop (true = true) i A B) A := ⟨fun h => by rw [if_pos rfl]; exact h⟩
instance {A B : Prop} {i : Decidable (false = true)} : Stp (@ite Prop (false = true) i A B) B := ⟨fun h => by rw [if_neg (by simp)]; exact h⟩
instance {A B : Prop} {i : Decidable ((!true) = true)} : Stp (@ite Prop ((!true) = true) i A B) B := ⟨fun h => by rw [if_neg (by simp)]; exact h⟩
instance {A B : Prop} {i : Decidable ((!false) = true)} : Stp (@ite Prop ((!false) = true) i A B) A := ⟨fun h => by rw [if_pos (by simp)]; exact h⟩
instance : Stp (tFor wi g tS ⟨nx, rt, bk, ct⟩ σ H) (wi σ H fun J H1 => ∃ W : Nat → Nat → L2.St → Hp → Prop, (∃ m, W 0 m σ H1) ∧ ∀ i m σ H, W i m σ H →
  (J.stop i H ∧ nx σ H) ∨ (J.go i H ∧ ∃ N : L2.St → Hp → Prop, (∀ σ' H', N σ' H' → ∃ m', m' < m ∧ W (i + 1) m' σ' H') ∧ ∀ x H', J.yld i H x H' → g x σ H' fun σ2 H2 => tS ⟨N, rt, nx, N⟩ σ2 H2)) := ⟨k_for⟩
instance {R : It → Hp → Prop} : Stp (iList K te σ H R) (te σ H fun x H1 => ∃ a, x = .ref a ∧ (∃ xs, SqL K H1 a xs) ∧ R (Itl K a) H1) := ⟨k_iList⟩
instance {R : It → Hp → Prop} : Stp (iTup K te σ H R) (te σ H fun x H1 => ∃ a, x = .ref a ∧ (∃ xs, SqT K H1 a xs) ∧ R (Itt K a) H1) := ⟨k_iTup⟩
instance {R : It → Hp → Prop} : Stp (iZip K tr σ H R) (tr σ H fun vs H1 => ∃ a b xs ys, vs = [.ref a, .ref b] ∧ SqL K H1 a xs ∧ SqL K H1 b ys ∧ R (Itz K a b) H1) := ⟨k_iZip⟩
instance {R : It → Hp → Prop} : Stp (iEnum K tr σ H R) (tr σ H fun vs H1 => ∃ a xs, vs = [.ref a] ∧ SqL K H1 a xs ∧ R (Ite K a) H1) := ⟨k_iEnum⟩
instance {R : It → Hp → Prop} : Stp (iRng1 tr σ H R) (tr σ H fun vs H1 => ∃ j : Int, vs = [.int j] ∧ -(2 ^ 62) ≤ j ∧ j < 2 ^ 62 ∧ R (Itr 0 j.toNat) H1) := ⟨k_iRng1⟩
instance {R : It → Hp → Prop} : Stp (iRng2 tr σ H R) (tr σ H fun vs H1 => ∃ i j : Int, vs = [.int i, .int j] ∧ (-(2 ^ 62) ≤ i ∧ i < 2 ^ 62 ∧ -(2 ^ 62) ≤ j ∧ j < 2 ^ 62) ∧ R (Itr i (j - i).toNat) H1) := ⟨k_iRng2⟩
instance {vs : List Nat} : Stp (tLc wi g t te vs σ H Q) (wi σ H fun J H1 => ∀ D, H1 D = none → ∃ W : Nat → Nat → Hp → Prop, (∃ m, W 0 m (upd H1 D (.lst []))) ∧ ∀ i m H, W i m H →
  (J.stop i H ∧ Q (.ref D) H) ∨ (J.go i H ∧ ∃ Nx : Hp → Prop, (∀ H', Nx H' → ∃ m', m' < m ∧ W (i + 1) m' H') ∧ ∀ x H', J.yld i H x H' → g x (wipe σ vs) H' fun σ2 H2 => wipe σ2 vs = wipe σ vs ∧ t σ2 H2 fun b H3 =>
    if b = true then te σ2 H3 fun y H4 => ∃ acc, H4 D = some (.lst acc) ∧ acc.length < sizeLine ∧ Nx (upd H4 D (.lst (acc ++ [y]))) else Nx H3)) := ⟨k_lc⟩
instance : Stp (tYes σ H QT) (QT true H) := ⟨k_yes⟩
instance {r : V → Option Int → Option Int → Hp → VK → Prop} {tl th : TO} : Stp (tSl r te tl th σ H Q) (te σ H fun x H1 => tl σ H1 fun l H2 => th σ H2 fun u H3 => r x l u H3 Q) := ⟨k_sl⟩
instance {QO : Option Int → Hp → Prop} : Stp (tNoPart σ H QO) (QO none H) := ⟨k_nopart⟩
instance {QO : Option Int → Hp → Prop} : Stp (tPart te σ H QO) (te σ H fun x H1 => ∃ i, x = .int i ∧ QO (some i) H1) := ⟨k_part⟩
instance {tg : L2.St → Hp → (Int → Int → Hp → Prop) → Prop} : Stp (tLstRg tg σ H Q) (tg σ H fun a b H1 => newR a b H1 Q) := ⟨k_listRg⟩
instance {QR : Int → Int → Hp → Prop} : Stp (tRg1 ta σ H QR) (ta σ H fun x H1 => ∃ n, x = .int n ∧ QR 0 n H1) := ⟨k_rg1⟩
instance {QR : Int → Int → Hp → Prop} : Stp (tRg2 ta tb σ H QR) (ta σ H fun x H1 => tb σ H1 fun y H2 => ∃ i j, x = .int i ∧ y = .int j ∧ QR i j H2) := ⟨k_rg2⟩
instance : Stp (rIsi K [.int a, .ty "int"] H Q) (Q (.bl true) H) := ⟨k_isiI⟩
instance : Stp (rIsi K [.int a, .ty "bool"] H Q) (Q (.bl false) H) := ⟨k_isiB⟩
instance : Stp (rIsi K [.int a, .ty "list"] H Q) (Q (.bl false) H) := ⟨k_isiLI⟩
instance {b : Bool} : Stp (rIntOf [.bl b] H Q) (Q (.int (if b then 1 else 0)) H) := ⟨k_intB⟩
theorem k_chain {r r' : R2} (h : ta σ H fun x H1 => tb σ H1 fun y H2 => r x y H2 fun z H3 => ∃ k, z = .bl k ∧ if k = true then tc σ H3 fun z H4 => r' y z H4 Q else Q (.bl false) H3) : tChain r r' ta tb tc σ H Q := h
instance {r r' : R2} : Stp (tChain r r' ta tb tc σ H Q) (ta σ H fun x H1 => tb σ H1 fun y H2 => r x y H2 fun z H3 => ∃ k, z = .bl k ∧ if k = true then tc σ H3 fun z H4 => r' y z H4 Q else Q (.bl false) H3) := ⟨k_chain⟩
theorem k_ifE (h : t σ H fun c H1 => if c = true then ta σ H1 Q else tb σ H1 Q) : tIf t ta tb σ H Q := h
instance : Stp (tIf t ta tb σ H Q) (t σ H fun c H1 => if c = true then ta σ H1 Q else tb σ H1 Q) := ⟨k_ifE⟩
def par2 (i j : Nat) (vs : List V) (σ : L2.St) (H : Hp) (nx : L2.St → Hp → Prop) : Prop := ∃ v w, vs = [v, w] ∧ nx ((σ.set i (some v)).set j (some w)) H
instance : Stp (tPar i j tr ⟨nx, rt, bk, ct⟩ σ H) (tr σ H fun vs H1 => par2 i j vs σ H1 nx) := ⟨fun h => h⟩
instance {σ'' : L2.St} [e : Put σ i (some v) σ'] [e2 : Put σ' j (some w) σ''] : Stp (par2 i j [v, w] σ H nx) (nx σ'' H) := ⟨fun h => ⟨v, w, rfl, by rw [e.eq, e2.eq]; exact h⟩⟩
end
/-! ### bits -/
def xShl : R2 := rI CPow fun i j => .int (i * 2 ^ j.toNat)
def xAnd : R2 := rI0 fun i j => .int (Builtin.bitAnd i j)
theorem k_shl {H : Hp} {Q : VK} {i j : Int} (hc : CPow i j) (h : Q (.int (i * 2 ^ j.toNat)) H) : xShl (.int i) (.int j) H Q := ⟨i, j, rfl, rfl, hc, h⟩
instance {H : Hp} {Q : VK} {i j : Int} : Stp (xAnd (.int i) (.int j) H Q) (Q (.int (Builtin.bitAnd i j)) H) := ⟨fun h => ⟨i, j, rfl, rfl, h⟩⟩
/-! ### list.count of flat values -/
def cntV (y : V) (ys : List V) : Nat := ys.countP fun z => eqV z y
def rCntV (K : PySem.W.Frag) : V → List V → Hp → VK → Prop := fun x xs H Q => ∃ (a : Addr) (ys : List V) (y : V), x = V.ref a ∧ xs = [y] ∧ SqL K H a ys ∧ flatV y = true ∧ ys.all flatV = true ∧ Q (.int (cntV y ys : Nat)) H
theorem cntV_eq {y : V} : ∀ {ys : List V} {its : List Value}, Vals ys its → ys.all flatV = true → its.countP (eqU y) = cntV y ys
  | _, _, .nil, _ => rfl
  | a :: as, _ :: _, .cons r rs, f => by
    have f1 : flatV a = true ∧ as.all flatV = true := by simpa using f
    unfold cntV
    rw [List.countP_cons, List.countP_cons, eqU_of r f1.1, cntV_eq rs f1.2]
    rfl
theorem mt_lcountV {X : Cx} : MtR X "list.count" (rCntV X.K) := by
  intro pins s σ H x xs v us Q I rx rxs h
  obtain ⟨a, ys, y, rfl, rfl, hs, fy, fys, q⟩ := h
  cases rx
  cases rxs with
  | cons ry rt =>
    rename_i uy ut
    cases rt
    obtain ⟨its, rv, ⟨⟨cls, dd, data, sl⟩, n, ho, hc, hdn, hd⟩, hlen⟩ := I.list hs
    simp only at hc hd
    subst hc hd
    refine call_meets PySem.F.slot_list_count ⟨_, ho, rfl⟩ PySem.F.entry_list_count (PySem.F.args_list_count_2 _ _)
      (SeqAt.list_countAt a its.toArray n dd sl uy (eqU y)) ⟨ho, fun u' hu' => mem_eqAt ry fy rv fys u' (by simpa using hu'), ?_⟩
    have ec : its.toArray.toList.countP (eqU y) = cntV y ys := cntV_eq rv fys
    refine ⟨.int (cntV y ys : Nat), H, I.tok _, ⟨s.toks, ?_⟩, q⟩
    show Value.int ((its.toArray.toList.countP (eqU y) : Nat) : Int) s.toks = Value.int ((cntV y ys : Nat) : Int) s.toks
    rw [ec]
section
variable {K : PySem.W.Frag} {H : Hp} {Q : VK}
theorem k_catN {p q : Addr} {xs ys : List V} (hp : H p = some (.lst xs)) (hq : H q = some (.lst ys)) (hz : xs.length + ys.length ≤ 100000) (h : ∀ l H', H l = none → Same H H' → H' l = some (.lst (xs ++ ys)) → Q (.ref l) H') : rCat (.ref p) (.ref q) H Q := k_cat hp hq hz fun l nl => h l _ nl (same_new nl) upd_same
theorem k_cntV {p : Addr} {ys : List V} {y : V} (hs : SqL K H p ys) (fy : flatV y = true) (fys : ys.all flatV = true) (h : Q (.int (cntV y ys : Nat)) H) : rCntV K (.ref p) [y] H Q := ⟨p, ys, y, rfl, rfl, hs, fy, fys, h⟩
theorem k_indexV {p : Addr} {ys : List V} {y z : V} {j : Nat} (hs : SqL K H p ys) (fy : flatV y = true) (fys : ys.all flatV = true) (hj : ys[j]? = some z) (hz : eqV z y = true) (hn : ∀ (m : Nat) (z' : V), m < j → ys[m]? = some z' → eqV z' y = false) (h : Q (.int (j : Nat)) H) : rIndex K (.ref p) [y] H Q := ⟨p, ys, y, j, z, rfl, rfl, hs, fy, fys, hj, hz, hn, h⟩
theorem k_sortedN {a : Addr} {ns : List Int} (hs : SqL K H a (ns.map V.int)) (h : ∀ (ns' : List Int) (p : Addr) H', ns'.Perm ns → ns'.Pairwise (· ≤ ·) → H p = none → Same H H' → H' p = some (.lst (ns'.map V.int)) → Q (.ref p) H') : rSortedI K [.ref a] H Q := k_sortedI hs fun ns' p h1 h2 h3 => h ns' p _ h1 h2 h3 (same_new h3) upd_same
end
/-! ### facts of older heaps -/
theorem hid_back {S : List Addr} {X Y : Hp} (h : Same X (hid S Y)) : Same X Y := h.trans (hid_same S Y)
theorem at_same {X Y : Hp} {p : Addr} {o : HO} (h : X p = some o) (s : Same X Y) : Y p = some o := s _ _ h
theorem sl_at {K : PySem.W.Frag} {X Y : Hp} {p : Addr} {xs : List V} (h : X p = some (.lst xs)) (s : Same X Y) : SqL K Y p xs := sl (s _ _ h)
theorem st_at {K : PySem.W.Frag} {X Y : Hp} {p : Addr} {xs : List V} (h : X p = some (.tup xs)) (s : Same X Y) : SqT K Y p xs := stp (s _ _ h)
theorem dpI_at {K : PySem.W.Frag} {X Y : Hp} {p : Addr} {ns : List Int} (h : X p = some (.lst (ns.map V.int))) (s : Same X Y) : Dp K Y (.ref p) (dInts ns) := dp_of_ints (sl (s _ _ h))
theorem dpP_at {K : PySem.W.Frag} {X Y : Hp} {p : Addr} {a b : Int} (h : X p = some (.tup [.int a, .int b])) (s : Same X Y) : Dp K Y (.ref p) (dPair (a, b)) := dp_of_pair (stp (s _ _ h))
theorem hid_free {S : List Addr} {H : Hp} (f : ∀ a ∈ S, H a = none) : Same H (hid S H) := fun b o hb => by
  rw [hid_ne fun z => by rw [f b z] at hb; cases hb]; exact hb
theorem hid_free1 {p : Addr} {H : Hp} (f : H p = none) : Same H (hid [p] H) := hid_free (free1 f)
theorem cut_to (xs : List V) (k : Nat) : cutV xs none (some (k : Int)) = xs.take k := by
  unfold cutV
  rw [HT.sIx_none, HT.sIx_nat, List.drop_zero, Nat.sub_zero]
  by_cases h : k ≤ xs.length
  · rw [Nat.min_eq_left h]
  · rw [Nat.min_eq_right (by omega), List.take_of_length_le (by simp), List.take_of_length_le (by omega)]
theorem cut_from (xs : List V) (k : Nat) : cutV xs (some (k : Int)) none = xs.drop k := by
  unfold cutV
  rw [HT.sIx_none, HT.sIx_nat]
  by_cases h : k ≤ xs.length
  · rw [Nat.min_eq_left h]
    exact List.take_of_length_le (by simp)
  · rw [Nat.min_eq_right (by omega), List.drop_of_length_le (Nat.le_refl _), List.drop_of_length_le (by omega), List.take_nil]
theorem dpa_take {K : PySem.W.Frag} {H : Hp} : ∀ {vs : List V} {ds : List PyData} (n : Nat), DpAll K H vs ds → DpAll K H (vs.take n) (ds.take n)
  | _, _, 0, _ => by simp only [List.take_zero]; exact .nil
  | _, _, n + 1, .nil => by simp only [List.take_nil]; exact .nil
  | _, _, n + 1, .cons h r => .cons h (dpa_take n r)
theorem dpa_drop {K : PySem.W.Frag} {H : Hp} : ∀ {vs : List V} {ds : List PyData} (n : Nat), DpAll K H vs ds → DpAll K H (vs.drop n) (ds.drop n)
  | _, _, 0, h => h
  | _, _, n + 1, .nil => by simp only [List.drop_nil]; exact .nil
  | _, _, n + 1, .cons _ r => dpa_drop n r
theorem Le.at {H H' : Hp} {pu p : Addr} {k : Int} {o : HO} (L : Le H pu k) (np : H p = none) (e : H' p = some o) : hid [pu] H' p = some o := by rw [hid_ne (L.fresh np)]; exact e
theorem hat {H : Hp} {pu p : Addr} {o : HO} (np : p ∉ [pu]) (e : H p = some o) : hid [pu] H p = some o := by rw [hid_ne np]; exact e
theorem kLp {xs : List V} {H : Hp} {Q : VK} {pu : Addr} {k : Int} (L : Le H pu k) (hn : xs.length ≤ 100000) (h : ∀ p H', H p = none → Same H H' → hid [pu] H' p = some (.lst xs) → Q (.ref p) H') : newL xs H Q := ⟨sz hn, fun p np => h p _ np (same_new np) (L.at np upd_same)⟩
theorem kTp {xs : List V} {H : Hp} {Q : VK} {pu : Addr} {k : Int} (L : Le H pu k) (hn : xs.length ≤ 100000) (h : ∀ p H', H p = none → Same H H' → hid [pu] H' p = some (.tup xs) → Q (.ref p) H') : newT xs H Q := ⟨sz hn, fun p np => h p _ np (same_new np) (L.at np upd_same)⟩
theorem sh_l2 {n : Nat} {c d : PyData} (h1 : Sh n c) (h2 : Sh n d) : Sh (n + 1) (.list [c, d]) := sh_list fun x hx => by
  rcases List.mem_cons.mp hx with rfl | hx
  · exact h1
  · rcases List.mem_cons.mp hx with rfl | hx
    · exact h2
    · cases hx
section
variable {K : PySem.W.Frag} {σ : L2.St} {H1 : Hp} {Q : VK} {g : TG} {tt : TT} {te : TE} {vs : List Nat}
/-- over a range, new objects may be made -/
theorem lc_growR {QD : Addr → Hp → Prop} {lo : Int} {n : Nat} (hz : n ≤ 50000) (f : Nat → Option V)
    (step : ∀ (i : Nat) H', i < n → Same H1 H' → ∀ (R : V → Hp → Prop) (R0 : Hp → Prop), (∀ y H'', f i = some y → Same H' H'' → R y H'') → (∀ H'', f i = none → Same H' H'' → R0 H'') →
      g (.int (lo + (i : Nat))) (wipe σ vs) H' fun σ2 H2 => wipe σ2 vs = wipe σ vs ∧ tt σ2 H2 fun b H3 => if b = true then te σ2 H3 R else R0 H3)
    (h : ∀ D H', H1 D = none → Same H1 H' → H' D = some (.lst ((List.range n).filterMap f)) → QD D H') :
    ∀ D, H1 D = none → ∃ W : Nat → Nat → Hp → Prop, (∃ m, W 0 m (upd H1 D (.lst []))) ∧ ∀ i m H, W i m H →
      ((Itr lo n).stop i H ∧ QD D H) ∨ ((Itr lo n).go i H ∧ ∃ Nx : Hp → Prop, (∀ H', Nx H' → ∃ m', m' < m ∧ W (i + 1) m' H') ∧ ∀ x H', (Itr lo n).yld i H x H' → g x (wipe σ vs) H' fun σ2 H2 => wipe σ2 vs = wipe σ vs ∧ tt σ2 H2 fun b H3 =>
        if b = true then te σ2 H3 fun y H4 => ∃ acc, H4 D = some (.lst acc) ∧ acc.length < sizeLine ∧ Nx (upd H4 D (.lst (acc ++ [y]))) else Nx H3) := by
  refine fun D nD => lc_range (fun i H => Same H1 H ∧ H D = some (.lst (((List.range n).take i).filterMap f))) ⟨same_new nD, by rw [upd_same]; simp⟩ ?_ ?_
  · rintro i H hi ⟨sm, hD⟩
    have tk := take_filterMap (f := f) (range_take hi)
    refine step i H hi sm _ _ (fun y H'' hy s2 => ⟨_, s2 _ _ hD, szl ?_, same_mut (sm.trans s2) nD, ?_⟩) (fun H'' hn s2 => ⟨sm.trans s2, ?_⟩)
    · have := List.length_filterMap_le f ((List.range n).take i)
      rw [List.length_take, List.length_range] at this
      omega
    · rw [upd_same, tk, hy]; rfl
    · rw [tk, hn, s2 _ _ hD]; simp
  · rintro H ⟨sm, hD⟩
    rw [List.take_of_length_le (by simp)] at hD
    exact h D H nD sm hD
end
/-- behind an if: what follows is shown once -/
theorem ifjoin {c : Bool} {σ : L2.St} {H : Hp} {s1 s2 : TS} {nx bk ct : L2.St → Hp → Prop} {rt : VK} (G : L2.St → Hp → Prop) (main : ∀ σ H, G σ H → nx σ H) (h : (∀ σ H, G σ H → nx σ H) → if c = true then s1 ⟨nx, rt, bk, ct⟩ σ H else s2 ⟨nx, rt, bk, ct⟩ σ H) : if c = true then s1 ⟨nx, rt, bk, ct⟩ σ H else s2 ⟨nx, rt, bk, ct⟩ σ H := h main
theorem k_repN {H : Hp} {Q : VK} {p : Addr} {xs : List V} {k : Int} (hp : H p = some (.lst xs)) (h0 : 0 ≤ k) (h1 : k < 100000) (h2 : xs.length * k.toNat ≤ 100000) (h : ∀ l H', H l = none → Same H H' → H' l = some (.lst (List.replicate k.toNat xs).flatten) → Q (.ref l) H') : rRep (.ref p) (.int k) H Q := k_rep hp h0 h1 h2 fun l nl => h l _ nl (same_new nl) upd_same
theorem ixN_last {n : Nat} (h : 0 < n) : ixN n (-1) = some (n - 1) := by
  unfold ixN
  rw [if_neg (by omega)]
  split
  · simp; omega
  · omega
theorem ifsjoin {t : TT} {σ : L2.St} {H : Hp} {s1 s2 : TS} {nx bk ct : L2.St → Hp → Prop} {rt : VK} (G : L2.St → Hp → Prop) (main : ∀ σ H, G σ H → nx σ H) (h : (∀ σ H, G σ H → nx σ H) → tIfS t s1 s2 ⟨nx, rt, bk, ct⟩ σ H) : tIfS t s1 s2 ⟨nx, rt, bk, ct⟩ σ H := h main
/-- over a list or a tuple -/
def iAny (w1 w2 : TI) : TI := fun σ H R => w1 σ H R ∨ w2 σ H R
theorem pi_any {X : Cx} {tg it : Expr} {w1 w2 : TI} (h1 : PI X tg it w1) (h2 : PI X tg it w2) : PI X tg it (iAny w1 w2) := ⟨fun pins s σ H R I h => by
  rcases h with h | h
  · exact h1.run pins s σ H R I h
  · exact h2.run pins s σ H R I h⟩
theorem k_inT2 {K : PySem.W.Frag} {H : Hp} {Q : VK} {p : Addr} {x a b : Int} (hs : SqT K H p [.int a, .int b]) (h : Q (.bl (decide (x = a ∨ x = b))) H) : rIn K false (.int x) (.ref p) H Q :=
  ⟨p, _, rfl, .inr hs, rfl, flat_ints [a, b], by
    rw [if_neg Bool.false_ne_true, show ([V.int a, .int b] : List V) = List.map V.int [a, b] from rfl, inV_ints]
    have e : decide (x ∈ [a, b]) = decide (x = a ∨ x = b) := by simp
    rw [e]; exact h⟩
theorem Pu.at {H H' : Hp} {pu ce p : Addr} {n : Nat} {t : Int} {o : HO} (L : Pu H pu ce n t) (np : H p = none) (e : H' p = some o) : hid [pu, ce] H' p = some o := by rw [hid_ne (L.fresh np)]; exact e
theorem kLq {xs : List V} {H : Hp} {Q : VK} {pu ce : Addr} {n : Nat} {t : Int} (L : Pu H pu ce n t) (hn : xs.length ≤ 100000) (h : ∀ p H', H p = none → Same H H' → hid [pu, ce] H' p = some (.lst xs) → Q (.ref p) H') : newL xs H Q := ⟨sz hn, fun p np => h p _ np (same_new np) (L.at np upd_same)⟩
theorem kTq {xs : List V} {H : Hp} {Q : VK} {pu ce : Addr} {n : Nat} {t : Int} (L : Pu H pu ce n t) (hn : xs.length ≤ 100000) (h : ∀ p H', H p = none → Same H H' → hid [pu, ce] H' p = some (.tup xs) → Q (.ref p) H') : newT xs H Q := ⟨sz hn, fun p np => h p _ np (same_new np) (L.at np upd_same)⟩
end Cm

namespace Cm
open PySem PySem.Spec PyProof.Rows L2

/-! ### a caught exception that is kept as a value -/
def ExV (cls : Value) (d : Option Addr) (a : Addr) : HO := .ext fun h => ∃ (oe : Obj) (vs : Array Value), h.get? a = some oe ∧ Zc cls d oe ∧ oe.data = .fields vs
theorem exV_ok {P : Program} {w : World} {H : Hp} {h : Heap} {a : Addr} {cls : Value} {d : Option Addr} {oe : Obj} {vs : Array Value} (he : h.get? a = some oe) (hz : Zc cls d oe) (hd : oe.data = .fields vs) : ObjOk P w H h a (ExV cls d a) :=
  ⟨⟨oe, vs, he, hz, hd⟩, ⟨oe, he⟩, fun h1 h2 ⟨o1, v1, g1, g2, g3⟩ k => ⟨o1, v1, k _ g1, g2, g3⟩⟩
theorem exV_at {P : Program} {w : World} {H : Hp} {h : Heap} {a : Addr} {cls : Value} {d : Option Addr} (hok : HOk P w H h) (e : H a = some (ExV cls d a)) : ∃ (oe : Obj) (vs : Array Value), h.get? a = some oe ∧ Zc cls d oe ∧ oe.data = .fields vs :=
  (hok a _ e).1
section
variable {X : Cx} {pins : List (Addr × Obj)} {σ : L2.St} {H : Hp} {s : Shared}
/-- an object of this def's own time is taken into sight -/
theorem track {a : Addr} {cls : Value} {d : Option Addr} {oe : Obj} {vs : Array Value} (I : Inv X pins σ H s) (he : s.heap.get? a = some oe) (hz : Zc cls d oe) (hd : oe.data = .fields vs) (na : H a = none) (n0 : X.s_0.heap.get? a = none)
    (nL : a ≠ X.env.locals) (np : ∀ p ∈ X.pn ++ pins, p.1 ≠ a) : Inv X pins σ (upd H a (ExV cls d a)) s := by
  have ne : ∀ {b : Addr} {o : HO}, H b = some o → b ≠ a := fun q => ne_of_none q na
  have nb : ∀ b o, X.s_0.heap.get? b = some o → b ≠ a := fun b o q z => by rw [z, n0] at q; cases q
  refine { I with base := ?_, free := ?_, freeC := ?_, pin := ?_, hok := ?_ }
  · have B := I.base
    refine ⟨B.keep, B.slot, fun b o q n x => ?_, B.there, fun b xs q => ?_, fun b o u q => ?_, fun b ps q => ?_⟩
    · rw [upd_ne (nb b o q)]; exact B.free b o q n x
    · have z := B.tups b xs q; rw [upd_ne (ne z)]; exact z
    · have z := B.frzs b o u q; rw [upd_ne (ne z)]; exact z
    · obtain ⟨m, z⟩ := B.tbls b ps q; exact ⟨m, by rw [upd_ne (ne z)]; exact z⟩
  · rw [upd_ne nL.symm]; exact I.free
  · intro x c q
    have nc : c ≠ a := fun z => by
      obtain ⟨v, oc, g1, g2⟩ := I.cell x c q
      rw [z, he] at g1
      cases g1
      rw [hd] at g2
      cases g2
    rw [upd_ne nc]; exact I.freeC x c q
  · intro p hp
    obtain ⟨g1, g2, g3⟩ := I.pin p hp
    exact ⟨g1, by rw [upd_ne (np p hp)]; exact g2, g3⟩
  · intro b u q
    by_cases hb : b = a
    · rw [hb] at q ⊢
      rw [upd_same] at q
      cases q
      exact exV_ok he hz hd
    · rw [upd_ne hb] at q
      exact (I.hok b u q).stay (fun _ _ _ z => z) (fun c z => by rw [upd_ne (ne z)]; exact z) fun c xs z => by rw [upd_ne (ne z)]; exact z
end
/-- what «except x as n: suite» wishes, the exception kept behind it -/
def wKept (K : PySem.W.Frag) (c : Value) (i : Nat) (ts : Addr → Value → Option Addr → TS) (Wout : WX) (D : Ends) : WX := fun cls d σ H =>
  ∃ b, PySem.W.exmOne K cls c = some b ∧
    (b = true → ∀ a, H a = none → ts a cls d ⟨fun σ' H' => D.nx (σ'.set i none) (upd H' a (ExV cls d a)), fun _ _ => False, fun _ _ => False, fun _ _ => False⟩ (σ.set i (some (.ref a))) H) ∧ (b = false → Wout cls d σ H)
section
variable {X : Cx} {x n : Str} {c : Value} {i : Nat} {body suite : List Stmt} {b0 : Stmt} {np pos pos' : Pos} {tb : WX → TS} {ts : Addr → Value → Option Addr → TS} {Wout : WX}
theorem ps_try_kept (hst : X.stack = X.env :: X.outer) (hfm : X.env.frame = some X.env.locals) (hex : X.ex = []) (hN : X.N.Nodup) (hi : X.N[i]? = some n) (hln : X.env.kindOf n = some .local) (hc : Names X x c) (tk : Takes X Wout)
    (hb : ∀ (W : WX) (pn : List (Addr × Obj)) (xe : Value → Shared → Prop), Takes (X.tr pn xe) W → PassesOwn (model X.prog X.w) X.A X.env xe → PSs (X.tr pn xe) body (tb W))
    (hsu : ∀ (a : Addr) (oe : Obj) (cls : Value) (d : Option Addr) (pn : List (Addr × Obj)), Zc cls d oe → (∃ vs, oe.data = .fields vs) → PSs (X.suite a ((a, oe) :: pn)) (b0 :: suite) (ts a cls d)) :
    PS X (.Try body [.ExceptHandler (some (.Name x np)) (some n) (b0 :: suite) pos'] [] [] pos) (fun D σ H => tb (wKept X.K c i ts Wout D) D σ H) := by
  constructor
  intro pins s σ H D I h
  have ok := I.ok
  have frm : X.A.frames = some (X.env :: X.outer) := by rw [← hst]; exact ok.frames
  refine wpAny_Try_except (wpAny_mono ((hb (wKept X.K c i ts Wout D) (X.pn ++ pins) _ (fun u s1 air => ?caught) PassesOwn.looking).run [] s σ H D (I.toTry _) h) (fun f s1 q => ?through) (fun e s1 q => q))
  case through =>
    cases f with
    | next => obtain ⟨σ1, H1, J, q⟩ := q; exact wpAny_execs_nil ⟨σ1, H1, J.ofTry ok, q⟩
    | brk => obtain ⟨σ1, H1, J, q⟩ := q; exact ⟨σ1, H1, J.ofTry ok, q⟩
    | cont => obtain ⟨σ1, H1, J, q⟩ := q; exact ⟨σ1, H1, J.ofTry ok, q⟩
    | ret u => obtain ⟨v, σ1, H1, J, r, q⟩ := q; exact ⟨v, σ1, H1, J.ofTry ok, r, q⟩
  case caught =>
    obtain ⟨a, B, sI, pins1, σ1, H1, cls, d, rfl, J0, ground, up, sky, na, os, bare, b, hcls, yes, no⟩ := air
    have J : Inv X pins σ1 H1 sI := J0.ofTry ok
    rw [show (X.tr (X.pn ++ pins) _).stack = X.stack from rfl, hst] at sky
    have Ba : B.get? a = none := by
      rcases sky with z | z | z
      · exact z.2.1
      · exact z.2.1
      · exact z.2.1
    show wpAny (model X.prog X.w) X.A (noteFrame (.ref a) X.env) _ _ _
    refine Sky.land Zc.steady frm hfm sky fun h2 fly up2 => ?_
    obtain ⟨o2, v2, g2, z2, d2⟩ := fly.there
    have J2 : Inv X pins σ1 H1 { s1 with heap := h2 } := J.landed ground fly.1 (up.trans up2) os bare
    have out : a ∉ frs (X.env :: X.outer) := fun hm => by
      obtain ⟨_, o', e', hnf⟩ := fly.2.2.1.mem hm
      rw [g2] at e'
      cases e'
      exact hnf _ d2
    have nL : a ≠ X.env.locals := fun z => out (List.mem_filterMap.mpr ⟨X.env, List.mem_cons_self, by rw [hfm, z]⟩)
    have nF : a ∉ X.fs := fun hm => by
      obtain ⟨e, he, q⟩ := List.mem_filterMap.mp hm
      exact out (List.mem_filterMap.mpr ⟨e, List.mem_cons_of_mem _ he, q⟩)
    have sIa : sI.heap.get? a = none := by
      cases q : sI.heap.get? a with
      | none => rfl
      | some o =>
        have := ground a o q (by rw [show (X.tr (X.pn ++ pins) _).stack = X.stack from rfl, hst]; exact out)
        rw [Ba] at this; cases this
    have n0 : X.s_0.heap.get? a = none := by
      cases q : X.s_0.heap.get? a with
      | none => rfl
      | some o =>
        obtain ⟨o', q'⟩ := J.base.there a o q (by rw [hex]; simp)
        rw [sIa] at q'; cases q'
    have pinNe : ∀ p ∈ X.pn ++ pins, p.1 ≠ a := fun p hp z => by
      have := (J.pin p hp).1
      rw [z, sIa] at this; cases this
    refine wpAny_handleBy_cons (codeAny_handlers_test ?_) (fun q => by cases q)
    have T2 := J2.suite g2 d2 na nL nF
    have ty : PySem.W.Looks (model X.prog X.w) h2 (typeOf (.ref a)) cls := fun _ _ _ _ k q => wpAny_typeOf_ref (k _ _ g2) (by rw [z2.1]; exact q)
    have named : ∀ {Q : Value → Shared → Prop} {E : Value → Shared → Prop}, Q c { s1 with heap := h2 } → wpAny (model X.prog X.w) (X.A.mark (some (.ref a))) (eval (.Name x np) X.env) Q E { s1 with heap := h2 } := fun {Q E} q => by
      obtain ⟨gl, db, hm | ⟨hm, hv, hn⟩⟩ := hc
      · exact ld_glob (X := X.suite a ((a, o2) :: (X.pn ++ pins))) T2 gl hm q db
      · exact ld_blt (X := X.suite a ((a, o2) :: (X.pn ++ pins))) T2 gl hm hv q hn db
    refine named ((PySem.W.exm_one (M := model X.prog X.w) J2.kIn ty hcls).here ?_)
    cases b with
    | false =>
      show wpAny _ X.A (handleBy (.ref a) X.env []) _ _ _
      refine wpAny_handleBy_nil ?_
      obtain ⟨_, _, _, oe, vs, T, oT, ts', he, hz, hd, h1, hr⟩ := id fly
      unfold PySem.passOn
      refine wpAny_bind (wpAny_field he hd h1 ?_)
      rw [if_neg (show ¬ ((Value.ref T == Value.none) = true) by simp)]
      have on : wpAny (model X.prog X.w) X.A (setFlight (.ref a) X.env.frame) (fun _ s4 => wpAny (model X.prog X.w) X.A (throw (.ref a) : Sem Flow) (SP X pins D) X.xe s4) X.xe { s1 with heap := h2 } := by
        rw [hfm]
        refine HandSPX.setFlight_upZ fly fun h4 hh4 up4 => wpAny_throw (tk _ _ ⟨a, B, sI, pins, σ1, H1, cls, d, rfl, J, ground, (up.trans up2).trans up4, .inr (.inr (by rw [hst]; exact hh4)), na, os, bare, no rfl⟩)
      first
        | exact wpAny_bind (wpAny_pure (wpAny_bind on))
        | exact wpAny_bind on
    | true =>
      refine codeAny_handlers_suite_as (HandSPX.lands_againZ fly fun h3 fly3 up3 => ?_)
      obtain ⟨o3, v3, g3, z3, d3⟩ := fly3.there
      have J3 : Inv X pins σ1 H1 { s1 with heap := h3 } := J.landed ground fly3.1 ((up.trans up2).trans up3) os bare
      refine store_ok (X := X.suite a ((a, o3) :: (X.pn ++ pins))) (v := .ref a) (J3.suite g3 d3 na nL nF) hN hi (.inl hln) rfl (fun s4 S4 => ?_) (.inr hln)
      refine wpAny_mono ((hsu a o3 cls d (X.pn ++ pins) z3 ⟨_, d3⟩).run [] s4 _ H1 _ S4 (yes rfl a na)) (fun f s5 q => ?_) (fun _ _ z => z.elim)
      cases f with
      | brk => obtain ⟨_, _, _, q⟩ := q; exact q.elim
      | cont => obtain ⟨_, _, _, q⟩ := q; exact q.elim
      | ret u => obtain ⟨_, _, _, _, _, q⟩ := q; exact q.elim
      | next =>
        obtain ⟨σ5, H5, S5, q5⟩ := q
        have K5 : Inv X ((a, o3) :: pins) σ5 H5 s5 := ⟨ok, S5.os, S5.bare, S5.base, S5.loc, S5.cell, S5.free, S5.freeC, fun p hp => S5.pin p (by
          rw [List.append_nil]
          rcases List.mem_append.mp hp with hp | hp
          · exact List.mem_cons_of_mem _ (List.mem_append_left _ hp)
          · rcases List.mem_cons.mp hp with hp | hp
            · rw [hp]; exact List.mem_cons_self
            · exact List.mem_cons_of_mem _ (List.mem_append_right _ hp)), S5.hok, S5.len⟩
        refine gone_ok K5 hN hi hln fun s6 K6 => ?_
        obtain ⟨g6, na6, _⟩ := K6.pin (a, o3) (List.mem_append_right _ List.mem_cons_self)
        have K7 : Inv X pins (σ5.set i none) H5 s6 := { K6 with pin := fun p hp => K6.pin p (by
          rcases List.mem_append.mp hp with hp | hp
          · exact List.mem_append_left _ hp
          · exact List.mem_append_right _ (List.mem_cons_of_mem _ hp)) }
        exact ⟨_, _, track K7 g6 z3 d3 na6 n0 nL pinNe, q5⟩
end

/-! ### isinstance of a kept exception, of None and of the other values -/
/-- what an exception class of the program must say, so that its instances are asked rightly -/
structure ExK (K : PySem.W.Frag) (D : Addr) : Prop where
  hg : PySem.W.findIn K (.ref D) "__getattribute__" = some (some (.builtin "BaseException.__getattribute__"))
  hk : PySem.W.findIn K (.ref D) "__getattr__" = some none
  hs : PySem.W.subIn K (.ref D) (.type "BaseException") = some true
  hd : PySem.W.hasDictIn K D = true
  ha : PySem.W.findIn K (.ref D) "__class__" = some (some (.builtin "object.__class__"))
  hn : PySem.W.specialIn K (.builtin "object.__class__") "__get__" = some (some (.builtin "getset_descriptor.__get__"))
  ht : PySem.W.takesIn K (.builtin "object.__class__") = some true
  hm : PySem.W.mroIn K D (.type "object") = some true
def exkB (K : PySem.W.Frag) (D : Addr) : Bool :=
  (PySem.W.findIn K (.ref D) "__getattribute__" == some (some (.builtin "BaseException.__getattribute__"))) && ((PySem.W.findIn K (.ref D) "__getattr__" == some none) && ((PySem.W.subIn K (.ref D) (.type "BaseException") == some true) && (PySem.W.hasDictIn K D &&
  ((PySem.W.findIn K (.ref D) "__class__" == some (some (.builtin "object.__class__"))) && ((PySem.W.specialIn K (.builtin "object.__class__") "__get__" == some (some (.builtin "getset_descriptor.__get__"))) && ((PySem.W.takesIn K (.builtin "object.__class__") == some true) && (PySem.W.mroIn K D (.type "object") == some true)))))))
theorem exkB_ok {K : PySem.W.Frag} {D : Addr} (h : exkB K D = true) : ExK K D := by
  unfold exkB at h
  simp only [Bool.and_eq_true, beq_iff_eq] at h
  obtain ⟨h1, h2, h3, h4, h5, h6, h7, h8⟩ := h
  exact ⟨h1, h2, h3, h4, h5, h6, h7, h8⟩
theorem ExK.xf {K : PySem.W.Frag} {D : Addr} (h : ExK K D) : XfC K D := ⟨h.hg, h.hk, h.hs, h.hd⟩
/-- what is known of a kept exception at a: its class D, its dict's state -/
def KeptAt (H : Hp) (a D : Addr) : Prop := ∃ d : Option Addr, H a = some (ExV (.ref D) d a) ∧ (d = none ∨ ∃ dd fs, d = some dd ∧ H dd = some (.xd fs))
def rIsX (K : PySem.W.Frag) : List V → Hp → VK → Prop := fun xs H Q => ∃ (a D : Addr) (c : V) (cv : Value) (b : Bool), xs = [.ref a, c] ∧ KeptAt H a D ∧ ExK K D ∧ ClsV c cv ∧ PySem.W.kitOne K (.ref D) cv = some b ∧ Q (.bl b) H
def rIsXT (K : PySem.W.Frag) : List V → Hp → VK → Prop := fun xs H Q => ∃ (a D tp : Addr) (cs : List V) (us : List Value) (b : Bool), xs = [.ref a, .ref tp] ∧ KeptAt H a D ∧ ExK K D ∧ H tp = some (.tup cs) ∧ Paired ClsV cs us ∧ PySem.W.kitAny K (.ref D) us = some b ∧ Q (.bl b) H
section
variable {X : Cx} {pins : List (Addr × Obj)} {σ : L2.St} {H : Hp} {s : Shared}
theorem kept_inst {a D : Addr} (I : Inv X pins σ H s) (k : KeptAt H a D) : ∃ ox od, PySem.W.InstAt s.heap a ox D od := by
  obtain ⟨d, e, dd⟩ := k
  obtain ⟨oe, vs, g, z, hd⟩ := exV_at I.hok e
  obtain ⟨oc, od, oda, osl⟩ := oe
  obtain ⟨h1, h2⟩ := z
  dsimp only at h1 h2 hd
  subst h1 h2 hd
  rcases dd with rfl | ⟨dx, fs, rfl, hx⟩
  · exact ⟨_, none, g, rfl, rfl, trivial⟩
  · obtain ⟨mA, ⟨o, es, ep, g2, _⟩, _⟩ := (show ObjOk X.prog X.w H s.heap dx (.xd fs) from I.hok dx _ hx)
    exact ⟨_, some o, g, rfl, rfl, g2⟩
theorem kit_exc {K : PySem.W.Frag} {a D : Addr} {ox : Obj} {od : Option Obj} (C : ExK K D) : PySem.W.KitX K (.ref a) (.ref D) (fun h => PySem.W.InstAt h a ox D od) := by
  have hcl : (PySem.W.clsIn K D).isSome = true := by
    obtain ⟨cd, hc, _⟩ := PySem.W.any_some C.hd
    rw [hc]; rfl
  exact PySem.W.kitx_exc hcl C.hg C.hk C.hs C.ha C.hn C.ht C.hm
theorem call_isX : CallR X (.builtin "isinstance") (rIsX X.K) := by
  intro pins s σ H xs us Q I r h
  obtain ⟨a, D, c, cv, b, rfl, k, C, kc, e, q⟩ := h
  obtain ⟨u1, u2, rfl, r1, r2⟩ := vals2 r
  have e2 := kc.eq r2
  subst e2
  cases (show u1 = Value.ref a from r1)
  obtain ⟨ox, od, J⟩ := kept_inst I k
  exact PySem.W.kia_one (kit_exc C) I.kIn J e (fun z => nomatch z) fun tk => ⟨.bl b, H, I.tok tk, rfl, q⟩
theorem call_isXT : CallR X (.builtin "isinstance") (rIsXT X.K) := by
  intro pins s σ H xs us Q I r h
  obtain ⟨a, D, tp, cs, ws, b, rfl, k, C, hT, kc, e, q⟩ := h
  obtain ⟨u1, u2, rfl, r1, r2⟩ := vals2 r
  cases (show u1 = Value.ref a from r1)
  cases (show u2 = Value.ref tp from r2)
  obtain ⟨ox, od, J⟩ := kept_inst I k
  obtain ⟨_, its, rv, o, h1, h2, n, h3⟩ := (show ObjOk X.prog X.w H s.heap tp (.tup cs) from I.hok tp _ hT)
  have e3 := ClsV.all kc rv
  subst e3
  obtain ⟨oc, od', dt, sl⟩ := o
  simp only at h2 h3
  subst h2 h3
  exact PySem.W.kia_tup (kit_exc C) I.kIn J h1 e (fun z => nomatch z) fun tk => ⟨.bl b, H, I.tok tk, rfl, q⟩
/-- isinstance of anything, one class or a tuple of them -/
def rIsA (K : PySem.W.Frag) : List V → Hp → VK → Prop := fun xs H Q => rIsi K xs H Q ∨ rIsiT K xs H Q ∨ rIsX K xs H Q ∨ rIsXT K xs H Q
theorem q_isA : CallR X (.builtin "isinstance") (rIsA X.K) := by
  intro pins s σ H xs us Q I r h
  rcases h with h | h | h | h
  · exact call_isi pins s σ H xs us Q I r h
  · exact call_isiT pins s σ H xs us Q I r h
  · exact call_isX pins s σ H xs us Q I r h
  · exact call_isXT pins s σ H xs us Q I r h
end

/-! ### a kept exception's field -/
def tXat (K : PySem.W.Frag) (n : Str) (te : TE) : TE := fun σ H Q => te σ H fun x H1 => ∃ (a C dd : Addr) (fs : List (Str × V)) (v : V), x = .ref a ∧ H1 a = some (ExV (.ref C) (some dd) a) ∧ XfC K C ∧ PySem.W.findIn K (.ref C) n = some none ∧ H1 dd = some (.xd fs) ∧ fs.lookup n = some v ∧ Q v H1
theorem pe_xat {X : Cx} {e : Expr} {te : TE} {pos : Pos} {n : Str} (he : PE X e te) (hb : attributeBase e n X.env (eval e X.env) = eval e X.env := by rfl) : PE X (.Attribute e n pos) (tXat X.K n te) := by
  constructor
  intro pins s σ H Q I h
  refine attr_of hb (thn (he.run pins s σ H _ I h) fun u s1 hh => ?_)
  obtain ⟨x, H1, I1, rx, a, C, dd, fs, v, rfl, ea, T, hno, ed, l, q⟩ := hh
  cases (show u = Value.ref a from rx)
  obtain ⟨oe, vs, g, z, hd⟩ := exV_at I1.hok ea
  obtain ⟨mA, hns, hr⟩ := (show ObjOk X.prog X.w H1 s1.heap dd (.xd fs) from I1.hok dd _ ed)
  obtain ⟨od, ho, hl⟩ := lookIn_ns hns
  obtain ⟨u, hu, ru⟩ := RelO.some_of (v := v) (o := mA n) (by rw [← l]; exact hr n)
  have J : PySem.W.InstAt s1.heap a oe C (some od) := ⟨g, z.1, by unfold PySem.W.notCls; rw [hd] <;> rfl, by rw [z.2]; exact ho⟩
  exact HandSPX.exc_get I1.kIn J T.ga T.gg T.exC (PySem.W.findObj_own T.hdC hno rfl (by rw [hl, hu])) (handed_of ru) ⟨v, H1, I1.tok _, ru, q⟩

/-! ### Base.__init__(self, ..) in an own exception's __init__, Base an own class without an __init__ -/
structure BaseI (K : PySem.W.Frag) (mg : Str → Option Value) (B : Addr) (x : Str) : Prop where
  gB : mg x = some (.ref B)
  rd : PySem.W.readsIn K B (.type "type") = true
  ga : PySem.W.specialIn K (.ref B) "__getattribute__" = some (some (.builtin "type.__getattribute__"))
  at_ : PySem.W.findCls K (.ref B) (.type "type") "__init__" = some (.val (.builtin "ValueError.__init__"))
theorem pe_binit {X : Cx} {x : Str} {B : Addr} {e : Expr} {es : List Expr} {ta : TA} {p1 p2 pos : Pos} {pl : Sem Bool} (T : BaseI X.K X.mg B x) (hg : Gl X x) (ha : PA X (e :: es) ta) (hdb : (x == ("__debug__" : Str)) = false := by decide)
    (hc : eval (.Call (.Attribute (.Name x p1) "__init__" p2) (e :: es) [] pos) X.env = (do
      let ov ← eval (.Name x p1) X.env
      standAt p2.atName
      let (f, first) ← holding [ov] (getMethod ov "__init__" pl)
      callWith pos f first (backTo pos (starEach (e :: es) X.env)) (backToKw pos (keywordEach [] X.env))) := by rfl)
    (he : starEach (e :: es) X.env = (false, eval e X.env) :: starEach es X.env := by rfl) (hpl : (backTo pos (starEach es X.env)).any (·.1) = false := by rfl) :
    PE X (.Call (.Attribute (.Name x p1) "__init__" p2) (e :: es) [] pos) (tVeI X.K ta) := by
  constructor
  intro pins s σ H Q I h
  refine PySem.W.methodCall_KW (ld_glob I hg T.gB ?_ hdb) hc
  refine PySem.W.method_cls I.kIn T.ga (PySem.W.cls_value I.kIn T.rd T.at_ (by decide +kernel) ?_)
  show wpAny _ _ (callWith pos (Value.builtin "ValueError.__init__") [] (backTo pos (starEach (e :: es) X.env)) []) _ _ _
  refine PyProof.Rows.callWith_method1 (thn (ha.run pos pins _ σ H _ (I.tok _) h) fun us s1 hh => ?_) he hpl
  obtain ⟨vs, H1, I1, r1, a, C, ws, rfl, hl, O, ea, q⟩ := hh
  cases r1 with
  | @cons _ u0 _ ur ra rr =>
    cases (show u0 = Value.ref a from ra)
    have len : ur.length ≤ sizeLine := by
      have := Paired.length rr
      rw [sizeLine_eq]
      omega
    exact oinit_ok O I1 ea len fun s' J => ⟨.non, H1, J, rfl, q⟩

/-! ### readings of raise, of an exception's own __init__ and of try, step by step -/
/-- raise C('..'), C without an __init__ -/
def tRaiseP (C : Addr) (E : XK) : TS := fun _ _ H => E (.ref C) none H
/-- raise C(e), C with an __init__ that keeps sp -/
def tRaiseO (C : Addr) (sp : Sp) (ta : TA) (E : XK) : TS := fun _ σ H => tMkO C sp [] ta σ H fun cls d H' => E cls d H'
/-- the promise of such an __init__(self, f): the field f is stored -/
def prInit (C : Addr) (f : Str) (v0 v1 : V) (H : Hp) (Q : VK) : Prop := ∃ a, v0 = .ref a ∧ H a = some (exo a C none) ∧ ∀ dx, H dx = none → dx ≠ a → Q .non (upd (upd H dx (exd dx [(f, v1)])) a (exo a C (some dx)))
def spInit (C : Addr) (f : Str) : Sp := fun vs H Q _ => ∃ v0 v1, vs = [v0, v1] ∧ prInit C f v0 v1 H Q
/-- try: .. except c as n: m = n (n in slot i, m in slot j) -/
def tTryK (K : PySem.W.Frag) (c : Value) (i j : Nat) (tb : WX → TS) : TS := fun D σ H => tb (wKept K c i (fun _ _ _ => tAsg (tVar i) (gName j)) (fun _ _ _ _ => False) D) D σ H
section
variable {K : PySem.W.Frag} {σ : L2.St} {H : Hp} {D : Ends} {E : XK} {C : Addr} {f : Str}
theorem k_raiseP (h : E (.ref C) none H) : tRaiseP C E D σ H := h
theorem heap_made {H : Hp} {a d : Addr} {o1 o2 o3 o4 : HO} (na : H a = none) (ne : d ≠ a) : upd (L2.del (upd (upd (upd H a o1) d o2) a o3) a) d o4 = upd H d o4 := by
  funext b
  by_cases h1 : b = d
  · rw [h1, upd_same, upd_same]
  · rw [upd_ne h1, upd_ne h1]
    by_cases h2 : b = a
    · rw [h2, L2.del_same, na]
    · rw [L2.del_ne h2, upd_ne h2, upd_ne h1, upd_ne h2]
theorem exo_ne_exd {a d C : Addr} {fs : List (Str × V)} : True := trivial
theorem k_raiseO {ta : TA} {v : V} (hta : ∀ (R : List V → Hp → Prop), R [v] H → ta σ H R) (h : ∀ d, H d = none → E (.ref C) (some d) (upd H d (.xd [(f, v)]))) : tRaiseO C (spInit C f) ta E D σ H := by
  refine hta _ ⟨(by show 1 ≤ 1000; decide), fun a na => ?_⟩
  refine ⟨.ref a, v, rfl, a, rfl, upd_same, fun dx ndx ne => ⟨rfl, dx, [(f, v)], upd_same, ?_, ?_, ?_⟩⟩
  · rw [upd_ne ne, upd_same]
  · rw [upd_ne ne] at ndx; exact ndx
  · rw [heap_made na ne]
    rw [upd_ne ne] at ndx
    exact h dx ndx
theorem k_try {i j : Nat} {tb : WX → TS} (h : tb (wKept K (.ref C) i (fun _ _ _ => tAsg (tVar i) (gName j)) (fun _ _ _ _ => False) D) D σ H) : tTryK K (.ref C) i j tb D σ H := h
theorem k_callS {sp : Sp} {W : WX} {tr : TA} {Q : VK} (h : tr σ H fun vs H1 => sp vs H1 Q (WE W σ)) : tCallS sp (WE W) tr σ H Q := h
/-- the exception is one of the clause's -/
theorem k_caught {c : Value} {i j : Nat} {cls : Value} {d : Option Addr} {nx : L2.St → Hp → Prop} {rt : VK} {bk ct : L2.St → Hp → Prop} (hi : i < σ.length) (hc : PySem.W.exmOne K cls c = some true)
    (h : ∀ a, H a = none → nx (((σ.set i (some (.ref a))).set j (some (.ref a))).set i none) (upd H a (ExV cls d a))) : wKept K c i (fun _ _ _ => tAsg (tVar i) (gName j)) (fun _ _ _ _ => False) ⟨nx, rt, bk, ct⟩ cls d σ H :=
  ⟨true, hc, fun _ a na => ⟨.ref a, by rw [List.getElem?_set_self hi], h a na⟩, fun z => Bool.noConfusion z⟩
theorem k_isXone {xs : List V} {Q : VK} {a D : Addr} {c : V} {cv : Value} {b : Bool} (k : KeptAt H a D) (e : ExK K D) (kc : ClsV c cv) (h1 : PySem.W.kitOne K (.ref D) cv = some b) (h : Q (.bl b) H) : rIsA K [.ref a, c] H Q := .inr (.inr (.inl ⟨a, D, c, cv, b, rfl, k, e, kc, h1, h⟩))
theorem k_isXtup {Q : VK} {a D tp : Addr} {cs : List V} {us : List Value} {b : Bool} (k : KeptAt H a D) (e : ExK K D) (hT : H tp = some (.tup cs)) (kc : Paired ClsV cs us) (h1 : PySem.W.kitAny K (.ref D) us = some b) (h : Q (.bl b) H) : rIsA K [.ref a, .ref tp] H Q := .inr (.inr (.inr ⟨a, D, tp, cs, us, b, rfl, k, e, hT, kc, h1, h⟩))
theorem k_isNone {Q : VK} {c : V} {cv : Value} {b : Bool} (kc : ClsV c cv) (h1 : PySem.W.kitOne K (.type "NoneType") cv = some b) (h : Q (.bl b) H) : rIsA K [.non, c] H Q := .inl ⟨_, _, _, _, b, rfl, kc, .base .non, h1, h⟩
theorem k_isOne {Q : VK} {xs : List V} (h : rIsi K xs H Q) : rIsA K xs H Q := .inl h
theorem k_xat {n : Str} {te : TE} {Q : VK} (h : te σ H fun x H1 => ∃ (a C dd : Addr) (fs : List (Str × V)) (v : V), x = .ref a ∧ H1 a = some (ExV (.ref C) (some dd) a) ∧ XfC K C ∧ PySem.W.findIn K (.ref C) n = some none ∧ H1 dd = some (.xd fs) ∧ fs.lookup n = some v ∧ Q v H1) : tXat K n te σ H Q := h
theorem exV_kept {a : Addr} {D : Addr} {d : Option Addr} {H : Hp} (h : H a = some (ExV (.ref D) d a)) (hd : d = none ∨ ∃ dd fs, d = some dd ∧ H dd = some (.xd fs)) : KeptAt H a D := ⟨d, h, hd⟩
end
section
variable {K : PySem.W.Frag} {σ : L2.St} {H : Hp} {D : Ends} {E : XK} {C : Addr} {f : Str} {Q : VK} {te : TE} {tr : TA}
instance {i j : Nat} {tb : WX → TS} : Stp (tTryK K (.ref C) i j tb D σ H) (tb (wKept K (.ref C) i (fun _ _ _ => tAsg (tVar i) (gName j)) (fun _ _ _ _ => False) D) D σ H) := ⟨k_try⟩
instance {sp : Sp} {W : WX} : Stp (tCallS sp (WE W) tr σ H Q) (tr σ H fun vs H1 => sp vs H1 Q (WE W σ)) := ⟨k_callS⟩
instance {n : Str} : Stp (tXat K n te σ H Q) (te σ H fun x H1 => ∃ (a C dd : Addr) (fs : List (Str × V)) (v : V), x = .ref a ∧ H1 a = some (ExV (.ref C) (some dd) a) ∧ XfC K C ∧ PySem.W.findIn K (.ref C) n = some none ∧ H1 dd = some (.xd fs) ∧ fs.lookup n = some v ∧ Q v H1) := ⟨k_xat⟩
instance : Stp (tRaiseP C E D σ H) (E (.ref C) none H) := ⟨k_raiseP⟩
/-- what follows a caught exception is shown once -/
theorem tryjoin {i j : Nat} {tb : WX → TS} (G : Value → Option Addr → L2.St → Hp → Prop) (rest : ∀ cls d σ' H', G cls d σ' H' → wKept K (.ref C) i (fun _ _ _ => tAsg (tVar i) (gName j)) (fun _ _ _ _ => False) D cls d σ' H')
    (h : (∀ cls d σ' H', G cls d σ' H' → wKept K (.ref C) i (fun _ _ _ => tAsg (tVar i) (gName j)) (fun _ _ _ _ => False) D cls d σ' H') → tTryK K (.ref C) i j tb D σ H) : tTryK K (.ref C) i j tb D σ H := h rest
end
section
variable {P : Program} {w : World} {K : PySem.W.Frag} {mg : Str → Option Value} {base : Heap}
/-- such an __init__ keeps its promise; msg, f: its texts -/
theorem init_reads {C B : Addr} {f : Str} {msg : V} {v0 v1 : V} {H : Hp} {Q : VK} (O : OexC K C) (hno : PySem.W.findIn K (.ref C) f = some none) (h : prInit C f v0 v1 H Q) :
    tSeq (tDrop (tVeI K (tCons (tVar 0) (tCons (tC msg) tNil)))) (tOst K f (tVar 0) (tVar 1)) { nx := fun _ H' => Q .non H', rt := Q } [some v0, some v1] H := by
  obtain ⟨a, rfl, ea, q⟩ := h
  refine ⟨_, rfl, a, C, [msg], rfl, (by show 1 ≤ 1000; decide), O, ea, ?_⟩
  exact ⟨_, rfl, _, rfl, a, C, rfl, O, hno, .inl ⟨ea, fun dx nd ne => q dx nd ne⟩⟩
end
end Cm

namespace Cm
open PySem PySem.Spec PyProof.Rows L2

/-! ### how many unlike ints -/
def unl (ns : List Int) : Nat := (PyProof.Rows.firstMet (fun i => ns.getD i 0) ns.length).length
theorem unl_le (ns : List Int) : unl ns ≤ ns.length := PyProof.Rows.firstMet_length_le _ _
def tLenU (K : PySem.W.Frag) (ta : TE) : TE := fun σ H Q => ta σ H fun x H1 => ∃ (l : Addr) (ns : List Int), x = .ref l ∧ SqL K H1 l (ns.map V.int) ∧ ns.length ≤ 4000 ∧ Q (.int (unl ns : Nat)) H1
theorem pe_lenU {X : Cx} {a : Expr} {ta : TE} {p p2 q pos : Pos} (cm : X.calm = true) (gl : Gl X "len") (ml : X.mg "len" = none) (gs : Gl X "set") (ms : X.mg "set" = none) (pa : PE X a ta)
    (se : starEach [a] X.env = (false, eval a X.env) :: starEach [] X.env := by rfl) : PE X (.Call (.Name "len" p) [.Call (.Name "set" p2) [a] [] q] [] pos) (tLenU X.K ta) := by
  constructor
  intro pins s σ H Q I h
  refine Call_ (ld_blt I gl ml boot_len (PyProof.Rows.callWith_builtin1 (PyProof.Rows.args_cons ?_ rfl) rfl rfl))
  refine Call_ (ld_blt I gs ms boot_set (PyProof.Rows.callWith_type1 (PyProof.Rows.args_cons (thn (pa.run pins s σ H _ I h) fun v s1 ⟨x, H1, J, rx, qx⟩ => PyProof.Rows.args_nil ?_) se) se rfl))
  obtain ⟨l, ns, rfl, hq, hl, qx⟩ := qx
  cases rx
  obtain ⟨its, rv, pl, hz⟩ := J.list hq
  have sz1 : its.toArray.size = ns.length := by rw [List.size_toArray, ← rv.length, List.length_map]
  refine call_set_list (J.ok.hd cm) pl.isList (by simpa using RZ.intsAre_vals rv) (by rw [sz1]; unfold scanBound; omega) fun h' tk hS hk => PyProof.Rows.args_nil ?_
  rw [sz1] at hS
  obtain ⟨o, es, ep, t, ho, hex, hd, _, _, _, hf, hn⟩ := hS
  have J2 : Inv X pins σ H1 { s1 with heap := h', toks := tk } := J.kept fun b o e => hk b o (Heap.lt_size e) e
  have hu := unl_le ns
  exact call_len_set ho hex hd hf (by rw [hn]; unfold unl at hu; omega) ⟨.int (unl ns : Nat), H1, J2.tok _, ⟨_, by rw [hn]; rfl⟩, qx⟩

section
variable {K : PySem.W.Frag} {σ : L2.St} {H1 : Hp} {g : TG} {tt : TT} {te : TE} {vs : List Nat}
/-- over a tuple, new objects may be made -/
theorem lc_growT {QD : Addr → Hp → Prop} {α : Type} {a : Addr} {xs : List V} (hs : SqT K H1 a xs) (ps : List α) (hl : xs.length = ps.length) (hz : ps.length ≤ 50000) (f : α → Option V)
    (step : ∀ (i : Nat) x p H', xs[i]? = some x → ps[i]? = some p → Same H1 H' → ∀ (R : V → Hp → Prop) (R0 : Hp → Prop), (∀ y H'', f p = some y → Same H' H'' → R y H'') → (∀ H'', f p = none → Same H' H'' → R0 H'') →
      g x (wipe σ vs) H' fun σ2 H2 => wipe σ2 vs = wipe σ vs ∧ tt σ2 H2 fun b H3 => if b = true then te σ2 H3 R else R0 H3)
    (h : ∀ D H', H1 D = none → Same H1 H' → H' D = some (.lst (ps.filterMap f)) → QD D H') :
    ∃ a', V.ref a = .ref a' ∧ (∃ xs, SqT K H1 a' xs) ∧ ∀ D, H1 D = none → ∃ W : Nat → Nat → Hp → Prop, (∃ m, W 0 m (upd H1 D (.lst []))) ∧ ∀ i m H, W i m H →
      ((Itt K a').stop i H ∧ QD D H) ∨ ((Itt K a').go i H ∧ ∃ Nx : Hp → Prop, (∀ H', Nx H' → ∃ m', m' < m ∧ W (i + 1) m' H') ∧ ∀ x H', (Itt K a').yld i H x H' → g x (wipe σ vs) H' fun σ2 H2 => wipe σ2 vs = wipe σ vs ∧ tt σ2 H2 fun b H3 =>
        if b = true then te σ2 H3 fun y H4 => ∃ acc, H4 D = some (.lst acc) ∧ acc.length < sizeLine ∧ Nx (upd H4 D (.lst (acc ++ [y]))) else Nx H3) := by
  refine ⟨a, rfl, ⟨xs, hs⟩, fun D nD => lc_tup (xs := xs) (fun i H => Same H1 H ∧ H D = some (.lst ((ps.take i).filterMap f))) ⟨same_new nD, by rw [upd_same]; simp⟩ (fun i H _ e => same_seqT e.1 hs) ?_ ?_⟩
  · rintro i x H hx ⟨sm, hD⟩
    have hi : i < xs.length := (List.getElem?_eq_some_iff.mp hx).1
    obtain ⟨p, hp⟩ : ∃ p, ps[i]? = some p := ⟨ps[i]'(by omega), List.getElem?_eq_getElem (by omega)⟩
    have tk := take_filterMap (f := f) hp
    refine step i x p H hx hp sm _ _ (fun y H'' hy s2 => ⟨_, s2 _ _ hD, szl ?_, same_mut (sm.trans s2) nD, ?_⟩) (fun H'' hn s2 => ⟨sm.trans s2, ?_⟩)
    · have := List.length_filterMap_le f (ps.take i)
      rw [List.length_take] at this
      omega
    · rw [upd_same, tk, hy]; rfl
    · rw [tk, hn, s2 _ _ hD]; simp
  · rintro H ⟨sm, hD⟩
    rw [hl, List.take_length] at hD
    exact h D H nD sm hD
end
theorem k_ixN {K : PySem.W.Frag} {H : Hp} {Q : VK} {p : Addr} {ns : List Int} {i : Nat} {x : Int} (hs : SqL K H p (ns.map V.int)) (hx : ns[i]? = some x) (h : Q (.int x) H) : rIxL K (.ref p) (.int i) H Q := k_ixL hs (atI_nat (by rw [List.getElem?_map, hx]; rfl)) h
theorem fm_map {α : Type} (f : α → V) (l : List α) : l.filterMap (fun x => some (f x)) = l.map f := by
  rw [show (fun x => some (f x)) = some ∘ f from rfl, List.filterMap_eq_map]

/-- what follows a statement is shown once, and lies out of sight meanwhile -/
theorem seqO {s1 s2 : TS} {σ : L2.St} {H : Hp} {nx bk ct : L2.St → Hp → Prop} {rt : VK} (G : L2.St → Hp → Prop) (main : ∀ σ H, G σ H → s2 ⟨nx, rt, bk, ct⟩ σ H) (h : ∀ nx' : L2.St → Hp → Prop, (∀ σ H, G σ H → nx' σ H) → s1 ⟨nx', rt, bk, ct⟩ σ H) : tSeq s1 s2 ⟨nx, rt, bk, ct⟩ σ H := h _ main
/-- the last statement of a block -/
theorem lastO {s1 : TS} {σ : L2.St} {H : Hp} {nx bk ct : L2.St → Hp → Prop} {rt : VK} (G : L2.St → Hp → Prop) (main : ∀ σ H, G σ H → nx σ H) (h : ∀ nx' : L2.St → Hp → Prop, (∀ σ H, G σ H → nx' σ H) → s1 ⟨nx', rt, bk, ct⟩ σ H) : s1 ⟨nx, rt, bk, ct⟩ σ H := h _ main

/-! ### texts -/
def rStrInt : List V → Hp → VK → Prop := fun xs H Q => ∃ i : Int, xs = [.int i] ∧ i.natAbs.log2 < 1920 ∧ Q (.str (toString i)) H
theorem q_strI {X : Cx} : CallR X (.type "str") rStrInt := call_str_int
def xAddS : R2 := fun x y H Q => ∃ i j, x = .str i ∧ y = .str j ∧ i.length + j.length ≤ sizeLine ∧ Q (.str (i ++ j)) H
def rJoin (K : PySem.W.Frag) : V → List V → Hp → VK → Prop := fun x xs H Q => ∃ a p, ∃ ys : List Str, x = .str a ∧ xs = [.ref p] ∧ (SqL K H p (ys.map V.str) ∨ SqT K H p (ys.map V.str)) ∧ (ys.map (·.length)).sum + ys.length * a.length ≤ 16777216 ∧ Q (.str (Txt.join a ys)) H
/-- the signs of a text -/
abbrev sg (s : Str) : List Nat := TL.tl s
def mkS (l : List Nat) : Str := ⟨l.toArray⟩
theorem sg_mkS (l : List Nat) : sg (mkS l) = l := rfl
theorem mkS_sg (s : Str) : mkS (sg s) = s := TL.ext_tl rfl
theorem mkS_inj {l m : List Nat} : mkS l = mkS m ↔ l = m := ⟨fun h => by have := congrArg sg h; rwa [sg_mkS, sg_mkS] at this, fun h => by rw [h]⟩
/-- the signs of a whole number -/
def nu (i : Int) : List Nat := sg (Str.ofString (toString i))
section
variable {K : PySem.W.Frag} {σ : L2.St} {H : Hp} {Q : VK} {to te : TE}
instance {r : V → List V → Hp → VK → Prop} : Stp (tM1 r to te σ H Q) (to σ H fun x H1 => (∃ a, x = .str a) ∧ te σ H1 fun y H2 => r x [y] H2 Q) := ⟨fun h => h⟩
instance {r : V → List V → Hp → VK → Prop} : Stp (tM0 r to σ H Q) (to σ H fun x H1 => (∃ a, x = .str a) ∧ r x [] H1 Q) := ⟨fun h => h⟩
instance {s : Str} {R : Prop} : Stp ((∃ a, V.str s = .str a) ∧ R) R := ⟨fun h => ⟨⟨s, rfl⟩, h⟩⟩
instance : Stp (tLenU K te σ H Q) (te σ H fun x H1 => ∃ (l : Addr) (ns : List Int), x = .ref l ∧ SqL K H1 l (ns.map V.int) ∧ ns.length ≤ 4000 ∧ Q (.int (unl ns : Nat)) H1) := ⟨fun h => h⟩
theorem k_lenU {l : Addr} {ns : List Int} (hs : SqL K H l (ns.map V.int)) (hl : ns.length ≤ 4000) (h : Q (.int (unl ns : Nat)) H) : ∃ (l' : Addr) (ns : List Int), V.ref l = .ref l' ∧ SqL K H l' (ns.map V.int) ∧ ns.length ≤ 4000 ∧ Q (.int (unl ns : Nat)) H := ⟨l, ns, rfl, hs, hl, h⟩
/-- a number of at most thirty figures -/
def Num30 (i : Int) : Prop := 0 ≤ i ∧ i < 10 ^ 30
theorem log_lt {n : Nat} (h : n < 2 ^ 1900) : n.log2 < 1920 := by
  by_cases c : n = 0
  · subst c; decide
  · have := (Nat.log2_lt c (k := 1900)).mpr h
    omega
theorem k_strI {i : Int} (h0 : i.natAbs < 2 ^ 1900) (h : Q (.str (mkS (nu i))) H) : rStrInt [.int i] H Q := ⟨i, rfl, log_lt h0, by unfold nu at h; rw [mkS_sg] at h; exact h⟩
theorem len_sg (s : Str) : s.length = (sg s).length := TL.len_tl s
theorem k_addS {s t : Str} (hz : (sg s).length + (sg t).length ≤ 100000) (h : Q (.str (mkS (sg s ++ sg t))) H) : xAddS (.str s) (.str t) H Q := ⟨s, t, rfl, rfl, by rw [len_sg, len_sg]; exact sz hz, by
  have e : s ++ t = mkS (sg s ++ sg t) := TL.ext_tl (TL.tl_append s t)
  rw [e]; exact h⟩
theorem k_join {s : Str} {p : Addr} {ys : List Str} (hp : SqL K H p (ys.map V.str)) (hz : (ys.map (·.length)).sum + ys.length * s.length ≤ 16777216) (h : Q (.str (mkS (TL.joinL (sg s) (ys.map sg)))) H) : rJoin K (.str s) [.ref p] H Q :=
  ⟨s, p, ys, rfl, rfl, .inl hp, hz, by
    have e : Txt.join s ys = mkS (TL.joinL (sg s) (ys.map sg)) := TL.ext_tl (by rw [TL.join_eq]; exact TL.tl_join s ys)
    rw [e]; exact h⟩
theorem k_isiS {s : Str} (h : Q (.bl true) H) : rIsi K [.str s, .ty "str"] H Q := k_isi (.base (.str s)) (by decide +kernel) h
end
/-! ### more of texts -/
def g_tokS (mg : Str → Option Value) (x : Str) : Tok := match mg x with
  | some (.str _ t) => t
  | _ => default
theorem tok_mkS {mg : Str → Option Value} {x n : Str} {t : Tok} (h : mg x = some (.str n t)) : mg x = some (.str n (g_tokS mg x)) := by
  unfold g_tokS
  rw [h]
theorem q_isiT {X : Cx} : CallR X (.builtin "isinstance") (rIsiT X.K) := call_isiT
def rLenStr : List V → Hp → VK → Prop := fun xs H Q => ∃ z : Str, xs = [.str z] ∧ z.length ≤ sizeLine ∧ Q (.int z.length) H
theorem q_lenS {X : Cx} : CallR X (.builtin "len") rLenStr := call_len_str
def xInS : R2 := fun x y H Q => ∃ i j, x = .str i ∧ y = .str j ∧ Q (.bl (!(Builtin.Str.occurrences j i 0 j.length 1).isEmpty)) H
def xNotInS : R2 := fun x y H Q => ∃ i j, x = .str i ∧ y = .str j ∧ Q (.bl (!(!(Builtin.Str.occurrences j i 0 j.length 1).isEmpty))) H
def rFind : V → List V → Hp → VK → Prop := fun x xs H Q => ∃ a b, x = .str a ∧ xs = [.str b] ∧ Q (.int (Txt.find a b)) H
def rSplit : V → List V → Hp → VK → Prop := fun x xs H Q => ∃ a b, x = .str a ∧ xs = [.str b] ∧ (b.length == 0) = false ∧ a.length + 2 ≤ sizeLine ∧ rNewStrs (Txt.split a b) H Q
section
variable {K : PySem.W.Frag} {σ : L2.St} {H : Hp} {Q : VK} {te : TE}
instance {R : It → Hp → Prop} : Stp (iStr te σ H R) (te σ H fun v H1 => ∃ x, v = .str x ∧ R (Its x) H1) := ⟨fun h => h⟩
theorem k_lenS {l : List Nat} (hl : l.length ≤ 100000) (h : Q (.int (l.length : Nat)) H) : rLenStr [.str (mkS l)] H Q := ⟨_, rfl, by rw [len_sg, sg_mkS]; exact sz hl, by rw [len_sg, sg_mkS]; exact h⟩
theorem k_notInS {l : List Nat} {c : Nat} (h : Q (.bl (!decide (c ∈ l))) H) : xNotInS (.str ⟨#[c]⟩) (.str (mkS l)) H Q := ⟨_, _, rfl, rfl, by
  rw [StrLaws.found_one]; exact h⟩
theorem k_inS {l : List Nat} {c : Nat} (h : Q (.bl (decide (c ∈ l))) H) : xInS (.str ⟨#[c]⟩) (.str (mkS l)) H Q := ⟨_, _, rfl, rfl, by
  rw [StrLaws.found_one]; exact h⟩
theorem k_split {l : List Nat} {s : Str} {ps : List (List Nat)} (hl : l.length ≤ 99000) (hs : s.length ≠ 0) (hp : Txt.split (mkS l) s = ps.map mkS) (h : ∀ p H', H p = none → Same H H' → H' p = some (.lst (ps.map fun q => V.str (mkS q))) → Q (.ref p) H') : rSplit (.str (mkS l)) [.str s] H Q :=
  ⟨_, _, rfl, rfl, by simpa using hs, by rw [len_sg, sg_mkS]; exact sz (by omega), fun p np => h p _ np (same_new np) (by rw [upd_same, hp, List.map_map]; rfl)⟩
theorem k_ixS {l : List Nat} {i : Nat} {c : Nat} (hl : l.length ≤ 100000) (hc : l[i]? = some c) (h : Q (.str ⟨#[c]⟩) H) : rIxS (.str (mkS l)) (.int i) H Q := ⟨_, _, c, rfl, rfl, by rw [len_sg, sg_mkS]; exact sz hl, atI_nat hc, h⟩
end
theorem split_one {s : Nat} {ps : List (List Nat)} (hs : s < 256) (hne : ps ≠ []) (hp : ∀ p ∈ ps, s ∉ p) : Txt.split (mkS (TL.joinL [s] ps)) ⟨#[s]⟩ = ps.map mkS := by
  have e : mkS (TL.joinL [s] ps) = Txt.join ⟨#[s]⟩ (ps.map mkS) := TL.ext_tl (by
    rw [TL.join_eq, TL.tl_join, List.map_map]
    show TL.joinL [s] ps = TL.joinL [s] (ps.map (TL.tl ∘ mkS))
    rw [show (TL.tl ∘ mkS) = id from rfl, List.map_id])
  rw [e]
  refine TL.split_join (s := s) (S := []) rfl (by simp [hs]) (by simpa using hne) fun p h => ?_
  obtain ⟨q, hq, rfl⟩ := List.mem_map.mp h
  exact hp q hq
/-- rows, each with its end, and what stands behind the last end -/
theorem rows_join (rs : List (List Nat)) (e : Nat) (z : List Nat) : (rs.map fun r => r ++ [e]).flatten ++ z = TL.joinL [e] (rs ++ [z]) := by
  induction rs with
  | nil => rfl
  | cons r t ih =>
    have : TL.joinL [e] (r :: (t ++ [z])) = r ++ ([e] ++ TL.joinL [e] (t ++ [z])) := by
      cases t <;> rfl
    rw [List.cons_append, this, ← ih]
    simp
theorem sg_str (s : String) : sg (Str.ofString s) = s.toList.map Char.toNat := TL.tl_ofString s
theorem nu_nat (n : Nat) : nu (n : Int) = TL.numL n := TL.tl_num n
theorem nu_len {i : Int} (h : 0 ≤ i) {k : Nat} (k0 : 0 < k) (h1 : i < 10 ^ k) : (nu i).length ≤ k := by
  obtain ⟨n, rfl⟩ := Int.eq_ofNat_of_zero_le h
  rw [nu_nat]
  unfold TL.numL
  rw [List.length_map]
  refine (Nat.length_toDigits_le_iff (by decide) k0).mpr ?_
  have : ((n : Nat) : Int) < ((10 ^ k : Nat) : Int) := by rw [Int.natCast_pow]; exact h1
  exact Int.ofNat_lt.mp this
/-- signs behind one another -/
theorem joinL_nil (ps : List (List Nat)) : TL.joinL [] ps = ps.flatten := by
  induction ps with
  | nil => rfl
  | cons p r ih => cases r with
    | nil => simp [TL.joinL]
    | cons q r => show p ++ ([] ++ TL.joinL [] (q :: r)) = _; rw [ih]; simp
theorem joinL_cons (S p : List Nat) (r : List (List Nat)) : TL.joinL S (p :: r) = p ++ (r.map fun q => S ++ q).flatten := by
  induction r generalizing p with
  | nil => simp [TL.joinL]
  | cons q r ih => show p ++ (S ++ TL.joinL S (q :: r)) = _; rw [ih]; simp
theorem sum_le {l : List Nat} {b : Nat} (h : ∀ x ∈ l, x ≤ b) : l.sum ≤ l.length * b := by
  induction l with
  | nil => simp
  | cons x r ih =>
    have h1 := ih fun y hy => h y (List.mem_cons_of_mem _ hy)
    have h2 := h x List.mem_cons_self
    rw [List.sum_cons, List.length_cons, Nat.add_mul]
    omega
theorem flat_le {l : List (List Nat)} {b : Nat} (h : ∀ x ∈ l, x.length ≤ b) : l.flatten.length ≤ l.length * b := by
  rw [List.length_flatten]
  have := sum_le (l := l.map List.length) (b := b) fun x hx => by
    obtain ⟨y, hy, rfl⟩ := List.mem_map.mp hx
    exact h y hy
  rw [List.length_map] at this
  exact this
end Cm

namespace Cm
open PySem PySem.Spec PyProof.Rows L2

/-! ### max(d.values()) -/
def tMaxVals (td : TE) : TE := fun σ H Q => td σ H fun x H1 => ∃ (a : Addr) (kvs : List (Key × V)) (is : List Int), x = V.ref a ∧ H1 a = some (.dK kvs) ∧ kvs.map (·.2) = is.map V.int ∧ is ≠ [] ∧ ∀ m, m ∈ is → (∀ j ∈ is, j ≤ m) → Q (.int m) H1
theorem pe_maxVals {X : Cx} {o : Expr} {p pos apos mpos : Pos} {td : TE} (hc : X.calm = true) (hg : Gl X "max") (hm : X.mg "max" = none) (hd : PE X o td) (hbase : attributeBase o "values" X.env (eval o X.env) = eval o X.env := by rfl) (hline : (apos.endLine == mpos.line) = true := by rfl)
    (hse : starEach [Expr.Call (.Attribute o "values" apos) [] [] mpos] X.env = [(false, eval (Expr.Call (.Attribute o "values" apos) [] [] mpos) X.env)] := by rfl) :
    PE X (.Call (.Name "max" p) [.Call (.Attribute o "values" apos) [] [] mpos] [] pos) (tMaxVals td) := by
  constructor
  intro pins s σ H Q I h
  refine wpAny_Call_Name_kw (ld_blt I hg hm (u := .builtin "max") (by first | rfl | decide +kernel) ?_ (by first | decide +kernel | decide) (by first | decide +kernel | decide))
  rw [hse]
  refine PySem.callWith_builtin1 (wpAny_Call_method0_late hbase hline (thn (hd.run pins s σ H _ I h) ?_))
  rintro v s1 ⟨x, H1, I1, r1, a, kvs, is, rfl, ha, hv, hne, q⟩
  obtain rfl : v = Value.ref a := r1
  obtain ⟨_, hsys, vs, rel, dof⟩ := dk_of I1.hok ha
  obtain ⟨ep, dat⟩ := dof.dictAt
  obtain ⟨ob, es, ho, ex, hdat, hko, hpr, hnd⟩ := id dat
  have lv : vs.length = is.length := by
    have e1 : kvs.length = is.length := by simpa using congrArg List.length hv
    rw [← e1]; exact (KV.length rel).symm
  have l0 : 0 < is.length := List.length_pos_iff.mpr hne
  have vals : ∀ (i : Nat) (v : Value), (∃ k, vs[i]? = some (k, v)) → ∃ t, v = Value.int (is.getD i 0) t := by
    rintro i v ⟨k, hk⟩
    obtain ⟨x, h1, h2⟩ := KV.at' rel hk
    have e1 : (is.map V.int)[i]? = some x := by rw [← hv, List.getElem?_map, h1] <;> rfl
    rw [List.getElem?_map] at e1
    obtain ⟨j, hj, rfl⟩ := Option.map_eq_some_iff.mp e1
    obtain ⟨t, e3⟩ := h2
    exact ⟨t, by rw [e3, List.getD_eq_getElem?_getD, hj] <;> rfl⟩
  refine ⟨"dict", "dict.values", F.plainAttrs_dict, F.slot_dict_values, F.type_dict_values, ⟨ob, ho, ex.1⟩, fun b e => by cases e; exact ⟨ob, ho, ex.2.1⟩, Calls.callWith_builtin rfl (PySem.evalArgs_none ?_)⟩
  refine call_meetsIn F.slot_dict_values ⟨ob, ho, ex.1⟩ F.entry_dict_values (F.args_dict_values_1 _) (meets_dict_values (mixKind X.prog X.w) a hsys) ⟨⟨vs, dof⟩, ?_⟩
  have up : ∀ b u, s1.heap.get? b = some u → (s1.heap.push { cls := .type "dict_values", data := .fields #[.ref a] }).get? b = some u := fun b u e => Heap.get?_push_of_some _ e
  have dat1 := dat.keep up
  have alt : a < s1.heap.objs.size := Heap.lt_size ho
  have sz : (s1.heap.push { cls := .type "dict_values", data := .fields #[.ref a] }).objs.size = s1.heap.objs.size + 1 := Heap.size_push _ _
  refine call_max_walk (wpAny_pyIter_values (v := s1.heap.objs.size) (d := a) ⟨_, Heap.get?_push_size _ rfl, rfl, rfl⟩ dat1 ?_)
  refine ⟨_, _, _, _, _, _, _, rfl, Walks.dictValues (knd := mixKind X.prog X.w) (A := X.A.in1) (I.ok.hd hc) (s1.heap.push { cls := .type "dict_values", data := .fields #[.ref a] }).objs.size a (by rw [sz]; exact Nat.ne_of_lt (Nat.lt_succ_of_lt alt)) vs ep,
    ⟨⟨_, Heap.get?_push_size _ rfl, rfl, rfl⟩, dat1.keep fun b u e => Heap.get?_push_of_some _ e⟩, ?_, by omega, CmpOf.ints_gt (fun i => is.getD i 0) vals, ?_⟩
  · intro b hb
    show b < ((s1.heap.push _).push _).objs.size
    rw [Heap.size_push, Heap.size_push]
    rw [sz] at hb
    rcases List.mem_cons.mp hb with e | hb
    · rw [e]; exact Nat.lt_succ_self _
    · rw [show b = a from List.mem_singleton.mp hb]
      exact Nat.lt_succ_of_lt (Nat.lt_succ_of_lt alt)
  · intro v h' tk hP hk
    obtain ⟨t, rfl⟩ := vals _ v hP
    obtain ⟨b1, b2⟩ := argBest_gt (fun i => is.getD i 0) (vs.length - 1)
    refine ⟨.int _, H1, I1.kept (t' := tk) fun b u e => hk b u (fun hmem => ?_) (Heap.get?_push_of_some _ (up b u e)), ⟨t, rfl⟩, q _ ?_ ?_⟩
    · have e1 := List.mem_singleton.mp hmem
      have e2 := Heap.lt_size e
      rw [sz] at e1
      rw [e1] at e2
      exact Nat.lt_irrefl _ (Nat.lt_of_lt_of_le e2 (Nat.le_succ _))
    · have hb : argBest (fun i j => decide (is.getD i 0 > is.getD j 0)) (vs.length - 1) < is.length := by omega
      rw [List.getD_eq_getElem?_getD, List.getElem?_eq_getElem hb]
      exact List.getElem_mem hb
    · intro j hj
      obtain ⟨i, hi, rfl⟩ := List.mem_iff_getElem.mp hj
      have e2 : is.getD i 0 = is[i] := by rw [List.getD_eq_getElem?_getD, List.getElem?_eq_getElem hi] <;> rfl
      rw [← e2]
      exact b2 i (by omega)

/-! ### fields and methods of an instance -/
section
variable {K : PySem.W.Frag} {σ : L2.St} {H : Hp} {Q : VK} {ta tv : TE} {t : TA} {f m : Str} {a C dx : Addr} {fs : List (Str × V)}
/-- x.f is read -/
def gF (K : PySem.W.Frag) (f : Str) (x : V) (H : Hp) (Q : VK) : Prop := ∃ a C dx fs v, x = .ref a ∧ H a = some (.ins C dx fs) ∧ Cls K C ∧ NoAttr K C f ∧ fs.lookup f = some v ∧ Q v H
instance : Stp (tFld K ta f σ H Q) (ta σ H fun x H1 => gF K f x H1 Q) := ⟨id⟩
theorem k_gF {v : V} (e : H a = some (.ins C dx fs)) (c : Cls K C) (n : NoAttr K C f) (l : fs.lookup f = some v) (h : Q v H) : gF K f (.ref a) H Q := ⟨a, C, dx, fs, v, rfl, e, c, n, l, h⟩
/-- x.f = y is written -/
def pF (K : PySem.W.Frag) (f : Str) (x y : V) (H : Hp) (N : Hp → Prop) : Prop := ∃ a C dx fs, x = .ref a ∧ H a = some (.ins C dx fs) ∧ Cls K C ∧ NoAttr K C f ∧ fs.length < 1000 ∧ N (upd H a (.ins C dx (putF f y fs)))
instance {nx bk ct : L2.St → Hp → Prop} {rt : VK} : Stp (sFld K ta tv f ⟨nx, rt, bk, ct⟩ σ H) (tv σ H fun y H1 => ta σ H1 fun x H2 => pF K f x y H2 (nx σ)) := ⟨id⟩
theorem k_pF {y : V} {N : Hp → Prop} (e : H a = some (.ins C dx fs)) (c : Cls K C) (n : NoAttr K C f) (l : fs.length < 1000) (h : N (upd H a (.ins C dx (putF f y fs)))) : pF K f (.ref a) y H N := ⟨a, C, dx, fs, rfl, e, c, n, l, h⟩
/-- x.m is a method's call -/
def mF (C : Addr) (m : Str) (x : V) (H : Hp) (P : Prop) : Prop := ∃ a dx fs, x = .ref a ∧ H a = some (.ins C dx fs) ∧ fs.lookup m = none ∧ P
instance {sp : Sp} {E : XK} : Stp (tMeth C m sp [] E ta t σ H Q) (ta σ H fun x H1 => mF C m x H1 (t σ H1 fun vs H2 => sp (x :: vs) H2 Q E)) := ⟨fun h => by
  unfold tMeth
  simp only [List.append_nil]
  exact h⟩
theorem k_mF {P : Prop} (e : H a = some (.ins C dx fs)) (l : fs.lookup m = none) (h : P) : mF C m (.ref a) H P := ⟨a, dx, fs, rfl, e, l, h⟩
/-- a new instance -/
def newI (C : Addr) (sp : Sp) (E : XK) (vs : List V) (H : Hp) (Q : VK) : Prop := ∀ x dx, H x = none → H dx = none → dx ≠ x → sp (.ref x :: vs) (upd (upd H dx (.own x)) x (.ins C dx [])) (fun v H2 => v = .non ∧ Q (.ref x) H2) E
instance {sp : Sp} {E : XK} : Stp (tMake C sp [] E t σ H Q) (t σ H fun vs H1 => newI C sp E vs H1 Q) := ⟨fun h => by
  unfold tMake
  simp only [List.append_nil]
  exact h⟩
end

/-! ### methods and makings that may raise, in a try -/
section
variable {X : Cx} {CX : CXT} {k : Nat} {f C : Addr} {fd : FuncData} {ps : List Str} {sp : Sp} {E : L2.St → XK} {x m : Str} {p pos apos : Pos} {e o : Expr} {es : List Expr} {ta : TE} {t : TA}
def tMtS (C : Addr) (m : Str) (sp : Sp) (E : L2.St → XK) (ta : TE) (t : TA) : TE := fun σ H Q => ta σ H fun x H1 => ∃ a dx fs, x = .ref a ∧ H1 a = some (.ins C dx fs) ∧ fs.lookup m = none ∧ t σ H1 fun vs H2 => sp (x :: vs) H2 Q (E σ)
theorem pe_mtS {pl : Sem Bool} (he : PE X o ta) (c : Cls X.K C) (hm : Meth X.K C m f) (F : FnOk X.prog X.w X.K X.mg X.base CX k f fd ps sp) (hr : Room k X.A) (hb : Binds X.K fd ps []) (hx : ∀ σ, PassesAt CX X σ (E σ)) (ha : PA X (e :: es) t)
    (hst : starEach (e :: es) X.env = (false, eval e X.env) :: starEach es X.env := by rfl) (hpl : (backTo pos (starEach es X.env)).any (·.1) = false := by rfl)
    (ht : eval (.Call (.Attribute o m apos) (e :: es) [] pos) X.env = (do
      let ov ← eval o X.env
      standAt apos.atName
      let (f, first) ← holding [ov] (getMethod ov m pl)
      callWith pos f first (backTo pos (starEach (e :: es) X.env)) (backToKw pos (keywordEach [] X.env))) := by rfl) :
    PE X (.Call (.Attribute o m apos) (e :: es) [] pos) (tMtS C m sp E ta t) := by
  refine ⟨fun pins s σ H Q I h => ?_⟩
  refine PySem.W.methodCall_KW (pl := pl) (thn (he.run pins s σ H _ I h) fun u s1 ⟨x, H1, I1, rx, a, dx, fs, ex, ea, l, q⟩ => ?_) ht
  subst ex
  obtain rfl : u = Value.ref a := rx
  refine getmeth_ok I1 ea c hm l ?_
  refine PySem.W.callWith_K (first := [.ref a]) (h₀ := X.base) I.ok.mod.kin hm.kp (thn (ha.run pos pins s1 σ H1 _ I1 q) fun us s2 ⟨vs, H2, I2, r, q2⟩ => ⟨I2.kIn, ?_⟩) hst hpl
  exact run_fnS (us := .ref a :: us) (vs := .ref a :: vs) F hr hb (hx σ) I2 (.cons rfl r) q2
def tMakeS (C : Addr) (sp : Sp) (E : L2.St → XK) (t : TA) : TE := fun σ H Q => t σ H fun vs H1 => ∀ x dx, H1 x = none → H1 dx = none → dx ≠ x → sp (.ref x :: vs) (upd (upd H1 dx (.own x)) x (.ins C dx [])) (fun v H2 => v = .non ∧ Q (.ref x) H2) (E σ)
theorem pe_makeS (M : Mk X.K C f) (F : FnOk X.prog X.w X.K X.mg X.base CX k f fd ps sp) (hr : Room (k + 1) X.A) (hg : Gl X x) (hm : X.mg x = some (.ref C)) (hb : Binds X.K fd ps []) (hx : ∀ σ, PassesAt CX X σ (E σ))
    (ha : PA X (e :: es) t) (hdb : (x == ("__debug__" : Str)) = false := by decide) (he : starEach (e :: es) X.env = (false, eval e X.env) :: starEach es X.env := by rfl) (hpl : (backTo pos (starEach es X.env)).any (·.1) = false := by rfl) :
    PE X (.Call (.Name x p) (e :: es) [] pos) (tMakeS C sp E t) := by
  refine ⟨fun pins s σ H Q I h => ?_⟩
  refine wpAny_Call_Name_kw (ld_glob I hg hm ?_ hdb)
  refine PySem.W.callWith_K (h₀ := X.base) I.ok.mod.kin M.kp (thn (ha.run pos pins s σ H _ I h) fun us s1 ⟨vs, H1, I1, r, q⟩ => ⟨I1.kIn, ?_⟩) he hpl
  have hq := q (s1.heap.objs.size + 1) s1.heap.objs.size (I1.hok.fresh (Nat.le_succ _)) (I1.hok.fresh (Nat.le_refl _)) (Nat.ne_of_lt (Nat.lt_succ_self _))
  have I2 := Inv.made (C := C) I1
  have r2 : Vals (V.ref (s1.heap.objs.size + 1) :: vs) (Value.ref (s1.heap.objs.size + 1) :: us) := .cons rfl r
  have hl : (Value.ref (s1.heap.objs.size + 1) :: us ++ []).length = ps.length := by
    have e := r2.length
    rw [F.len _ _ _ _ hq] at e
    rw [List.append_nil]
    exact e.symm
  have b := hb _ (Value.ref (s1.heap.objs.size + 1) :: us) I2.kIn hl
  rw [List.append_nil] at b
  refine wpAny_call (make_map (f := f) I1.kIn M.makes M.init (beq_iff_eq.mp M.fn) (codeAny_mono (F.run _ X.stack _ _ ⟨Value.ref (s1.heap.objs.size + 1) :: us, []⟩ (Value.ref (s1.heap.objs.size + 1) :: us) _ _ (E σ) (hr.make C us [])
    (I2.env0.make C us []) b r2 hq) fun r s' hq' => ?_))
  cases r with
  | error e => exact hx σ pins _ _ e s' I2 hq'
  | ok fl =>
    cases fl with
    | ret u =>
      obtain ⟨v, H', I3, rv, ev, q3⟩ := I2.after hq'
      subst ev
      exact ⟨rv, ⟨V.ref (s1.heap.objs.size + 1), H', I3, rfl, q3⟩⟩
    | next => exact False.elim hq'
    | brk => exact False.elim hq'
    | cont => exact False.elim hq'
end
section
variable {σ : L2.St} {H : Hp} {Q : VK} {ta : TE} {t : TA} {m : Str} {C : Addr}
instance {sp : Sp} {E : L2.St → XK} : Stp (tMtS C m sp E ta t σ H Q) (ta σ H fun x H1 => mF C m x H1 (t σ H1 fun vs H2 => sp (x :: vs) H2 Q (E σ))) := ⟨id⟩
instance {sp : Sp} {E : L2.St → XK} : Stp (tMakeS C sp E t σ H Q) (t σ H fun vs H1 => newI C sp (E σ) vs H1 Q) := ⟨id⟩
end
/-! ### a comprehension over a range whose items are new things, each by itself -/
section
variable {K : PySem.W.Frag} {σ : L2.St} {H1 : Hp} {Q : VK} {g : TG} {tt : TT} {te : TE} {vs : List Nat}
theorem lc_rowsR {QD : Addr → Hp → Prop} {lo : Int} {n : Nat} (hz : n ≤ 50000) (F : Nat → HO)
    (step : ∀ (i : Nat) H', i < n → Same H1 H' → ∀ (R : V → Hp → Prop) (R0 : Hp → Prop), (∀ p H'', H' p = none → Same H' H'' → H'' p = some (F i) → R (.ref p) H'') →
      g (.int (lo + (i : Nat))) (wipe σ vs) H' fun σ2 H2 => wipe σ2 vs = wipe σ vs ∧ tt σ2 H2 fun b H3 => if b = true then te σ2 H3 R else R0 H3)
    (h : ∀ (D : Addr) (rs : List Addr) (H' : Hp), H1 D = none → Same H1 H' → H' D = some (.lst (rs.map V.ref)) → rs.length = n → rs.Nodup → D ∉ rs → (∀ r ∈ rs, H1 r = none) → (∀ (j : Nat) r, rs[j]? = some r → H' r = some (F j)) → QD D H') :
    ∀ D, H1 D = none → ∃ W : Nat → Nat → Hp → Prop, (∃ m, W 0 m (upd H1 D (.lst []))) ∧ ∀ i m H, W i m H →
      ((Itr lo n).stop i H ∧ QD D H) ∨ ((Itr lo n).go i H ∧ ∃ Nx : Hp → Prop, (∀ H', Nx H' → ∃ m', m' < m ∧ W (i + 1) m' H') ∧ ∀ x H', (Itr lo n).yld i H x H' → g x (wipe σ vs) H' fun σ2 H2 => wipe σ2 vs = wipe σ vs ∧ tt σ2 H2 fun b H3 =>
        if b = true then te σ2 H3 fun y H4 => ∃ acc, H4 D = some (.lst acc) ∧ acc.length < sizeLine ∧ Nx (upd H4 D (.lst (acc ++ [y]))) else Nx H3) := by
  refine fun D nD => lc_range (fun i H => Same H1 H ∧ ∃ rs : List Addr, H D = some (.lst (rs.map V.ref)) ∧ rs.length = i ∧ rs.Nodup ∧ D ∉ rs ∧ (∀ r ∈ rs, H1 r = none) ∧ ∀ (j : Nat) r, rs[j]? = some r → H r = some (F j))
    ⟨same_new nD, [], by rw [upd_same]; rfl, rfl, List.nodup_nil, by simp, (fun r z => by cases z), (fun j r z => by simp at z)⟩ ?_ ?_
  · rintro i H hi ⟨sm, rs, hD, lr, nd, dr, fr, at_⟩
    refine step i H hi sm _ _ (fun p H'' np s2 ep => ⟨_, s2 _ _ hD, szl (by simp; omega), same_mut (sm.trans s2) nD, rs ++ [p], ?_, by simp [lr], ?_, ?_, ?_, ?_⟩)
    · rw [upd_same, List.map_append]; rfl
    · rw [List.nodup_append]
      refine ⟨nd, by simp, fun r hr q hq e => ?_⟩
      rw [List.mem_singleton.mp hq] at e
      subst e
      obtain ⟨j, hj⟩ := List.mem_iff_getElem?.mp hr
      rw [at_ j _ hj] at np
      cases np
    · intro z
      rcases List.mem_append.mp z with z | z
      · exact dr z
      · rw [List.mem_singleton.mp z] at hD
        rw [hD] at np
        cases np
    · intro r hr
      rcases List.mem_append.mp hr with hr | hr
      · exact fr r hr
      · rw [List.mem_singleton.mp hr]; exact sm.free np
    · intro j r hr
      have rD : r ≠ D := fun e => by
        rcases List.mem_append.mp (List.mem_of_getElem? hr) with z | z
        · exact dr (e ▸ z)
        · rw [List.mem_singleton.mp z] at e
          rw [e, hD] at np
          cases np
      rw [upd_ne rD]
      by_cases c : j < rs.length
      · rw [List.getElem?_append_left c] at hr
        exact s2 _ _ (at_ j r hr)
      · have hj : j = i := by
          have := (List.getElem?_eq_some_iff.mp hr).1
          simp at this
          omega
        subst hj
        rw [List.getElem?_append_right (by omega), lr, Nat.sub_self] at hr
        cases hr
        exact ep
  · rintro H ⟨sm, rs, hD, lr, nd, dr, fr, at_⟩
    exact h D rs H nD sm hD lr nd dr fr at_
end
/-! ### dicts with whole numbers for keys -/
section
variable {σ : L2.St} {H : Hp} {Q : VK} {td ty tx tv : TE} {p : Addr} {kvs : List (Key × V)} {t : Int} {v z : V} {nx bk ct : L2.St → Hp → Prop} {rt : VK}
def newD (H : Hp) (Q : VK) : Prop := ∀ p, H p = none → Q (.ref p) (upd H p (.dK []))
instance : Stp (tDNewK σ H Q) (newD H Q) := ⟨id⟩
theorem kD (h : ∀ p H', H p = none → Same H H' → H' p = some (.dK []) → Q (.ref p) H') : newD H Q := fun p np => h p _ np (same_new np) upd_same
def aD (x : V) (H : Hp) (R : Addr → Prop) : Prop := ∃ a, x = .ref a ∧ IsD H a ∧ R a
def gD2 (a : Addr) (y z : V) (H : Hp) (Q : VK) : Prop := ∃ o, DGet H a y o ∧ Q (o.getD z) H
instance : Stp (tDGet2 td ty tx σ H Q) (td σ H fun x H1 => aD x H1 fun a => ty σ H1 fun y H2 => tx σ H2 fun z H3 => gD2 a y z H3 Q) := ⟨id⟩
theorem k_aD {R : Addr → Prop} (e : H p = some (.dK kvs)) (h : R p) : aD (.ref p) H R := ⟨p, rfl, .inl ⟨kvs, .inl e⟩, h⟩
theorem k_gD2 (e : H p = some (.dK kvs)) (h : Q ((valV kvs (.inl t)).getD z) H) : gD2 p (.int t) z H Q := ⟨_, DGet.k (k := .inl t) e, h⟩
def pD (x y v : V) (H : Hp) (N : Hp → Prop) : Prop := ∃ a H4, x = .ref a ∧ DPut H a y v H4 ∧ N H4
instance : Stp (sDPut td ty tv ⟨nx, rt, bk, ct⟩ σ H) (tv σ H fun v H1 => td σ H1 fun x H2 => ty σ H2 fun y H3 => pD x y v H3 (nx σ)) := ⟨id⟩
theorem k_pD {N : Hp → Prop} (e : H p = some (.dK kvs)) (l : kvs.length < 100000) (h : N (upd H p (.dK (putK kvs (.inl t) v)))) : pD (.ref p) (.int t) v H N := ⟨p, _, rfl, DPut.k (k := .inl t) e (szl l), h⟩
def gMx (x : V) (H : Hp) (Q : VK) : Prop := ∃ (a : Addr) (kvs : List (Key × V)) (is : List Int), x = V.ref a ∧ H a = some (.dK kvs) ∧ kvs.map (·.2) = is.map V.int ∧ is ≠ [] ∧ ∀ m, m ∈ is → (∀ j ∈ is, j ≤ m) → Q (.int m) H
instance : Stp (tMaxVals td σ H Q) (td σ H fun x H1 => gMx x H1 Q) := ⟨id⟩
theorem k_gMx {is : List Int} (e : H p = some (.dK kvs)) (hv : kvs.map (·.2) = is.map V.int) (ne : is ≠ []) (h : ∀ m, m ∈ is → (∀ j ∈ is, j ≤ m) → Q (.int m) H) : gMx (.ref p) H Q := ⟨p, kvs, is, rfl, e, hv, ne, h⟩
end
/-! ### list.insert -/
def rIns : V → List V → Hp → VK → Prop := fun x vs H Q => ∃ (l : Addr) (xs : List V) (i : Int) (y : V), x = .ref l ∧ vs = [.int i, y] ∧ H l = some (.lst xs) ∧ xs.length < sizeLine ∧ 0 ≤ i ∧ i < 2 ^ 63 ∧ Q .non (upd H l (.lst (xs.take i.toNat ++ [y] ++ xs.drop i.toNat)))
theorem k_ins {H : Hp} {Q : VK} {l : Addr} {xs : List V} {i : Int} {y : V} (e : H l = some (.lst xs)) (hl : xs.length < 100000) (h0 : 0 ≤ i) (h1 : i < 1000000) (h : Q .non (upd H l (.lst (xs.take i.toNat ++ [y] ++ xs.drop i.toNat)))) : rIns (.ref l) [.int i, y] H Q := ⟨l, xs, i, y, rfl, rfl, e, szl hl, h0, by omega, h⟩
/-! ### reads of a dict, loops over its keys -/
section
variable {σ : L2.St} {H : Hp} {Q : VK} {td ty : TE} {p : Addr} {kvs : List (Key × V)} {t : Int} {v : V} {nx bk ct : L2.St → Hp → Prop} {rt : VK}
def gD1 (x y : V) (H : Hp) (Q : VK) : Prop := ∃ a v, x = .ref a ∧ DGet H a y (some v) ∧ Q v H
instance : Stp (tDGet td ty σ H Q) (td σ H fun x H1 => ty σ H1 fun y H2 => gD1 x y H2 Q) := ⟨id⟩
theorem k_gD1 (e : Rd H p (.dK kvs)) (hv : valV kvs (.inl t) = some v) (h : Q v H) : gD1 (.ref p) (.int t) H Q := ⟨p, v, rfl, .inl ⟨kvs, .inl t, e, rfl, hv.symm⟩, h⟩
theorem upd_self {H : Hp} {d : Addr} {u : HO} (h : H d = some u) : upd H d u = H := by
  funext b
  unfold upd
  split
  · rename_i e; rw [e, h]
  · rfl
/-- a for over the keys of a dict of numbers; the heap stays -/
theorem forD {g : TG} {tb : TS} {D : Ends} (hd : H p = some (.dK kvs)) (Pv : Nat → L2.St → Prop) (h0 : Pv 0 σ)
    (htd : ∀ (R : V → Hp → Prop) od, R (.ref p) (upd H p (.frz od (.dK kvs))) → td σ (upd H p (.frz od (.dK kvs))) R)
    (hs : ∀ (od : Obj) (i : Nat) k v σ, kvs[i]? = some (k, v) → Pv i σ → ∀ (N B C : L2.St → Hp → Prop) (rt : VK), (∀ σ', Pv (i + 1) σ' → N σ' (upd H p (.frz od (.dK kvs)))) → (∀ v, D.rt v H → rt v (upd H p (.frz od (.dK kvs)))) →
      g (kV k) σ (upd H p (.frz od (.dK kvs))) fun σ2 H2 => tb ⟨N, rt, B, C⟩ σ2 H2)
    (fin : ∀ σ', Pv kvs.length σ' → D.nx σ' H) : tLock (tFor (iKeys td) g tb) D σ H := by
  refine ⟨p, .dK kvs, hd, trivial, fun od => ?_⟩
  refine htd _ od ⟨p, od, rfl, .inl ⟨kvs, upd_same, ?_⟩⟩
  have back : upd (upd H p (.frz od (.dK kvs))) p (.dK kvs) = H := by rw [upd_upd, upd_self hd]
  refine for_it walk_keys (fun i σ' H' => H' = upd H p (.frz od (.dK kvs)) ∧ Pv i σ') ⟨rfl, h0⟩ (fun i σ' H' _ e => by rw [e.1]; exact upd_same) ?_ ?_
  · rintro i x σ' H' H'' hi ⟨rfl, pv⟩ ⟨rfl, k, v, hkv, rfl⟩
    exact hs od i k v σ' hkv pv _ _ _ _ (fun σ' h => ⟨rfl, h⟩) (fun v h => ⟨upd_same, by rw [back]; exact h⟩)
  · rintro σ' H' ⟨rfl, pv⟩
    exact ⟨upd_same, by rw [back]; exact fin σ' pv⟩
end
/-- a dict of counts -/
structure Cnt (kvs : List (Key × V)) (c : Int → Nat) (m : Nat) : Prop where
  isI : ∃ is : List Int, kvs.map (·.2) = is.map V.int
  val : ∀ t, valV kvs (.inl t) = if c t = 0 then none else some (.int (c t : Nat))
  len : kvs.length ≤ m
theorem Cnt.nil : Cnt [] (fun _ => 0) 0 := ⟨⟨[], rfl⟩, fun t => by rw [valV_nil]; rfl, Nat.le_refl _⟩
theorem putK_lenN (c : List (Key × V)) (k : Key) (x : V) : (putK c k x).length ≤ c.length + 1 := by
  unfold putK
  split
  · rw [List.length_map]; omega
  · rw [List.length_append]; simp
theorem mapK_ints {k : Key} {x : Int} : ∀ (kvs : List (Key × V)) (is : List Int), kvs.map (·.2) = is.map V.int → ∃ is : List Int, (kvs.map fun kv => if kv.1 = k then (kv.1, V.int x) else kv).map (·.2) = is.map V.int
  | [], _, _ => ⟨[], rfl⟩
  | a :: r, [], h => by simp at h
  | a :: r, j :: js, h => by
    simp only [List.map_cons, List.cons.injEq] at h
    obtain ⟨is', h'⟩ := mapK_ints r js h.2
    by_cases c : a.1 = k
    · exact ⟨x :: is', by rw [List.map_cons, List.map_cons, if_pos c, h']; rfl⟩
    · exact ⟨j :: is', by rw [List.map_cons, List.map_cons, if_neg c, h', h.1]; rfl⟩
theorem putK_ints {kvs : List (Key × V)} {k : Key} {x : Int} (h : ∃ is : List Int, kvs.map (·.2) = is.map V.int) : ∃ is : List Int, (putK kvs k (.int x)).map (·.2) = is.map V.int := by
  obtain ⟨is, h⟩ := h
  unfold putK
  split
  · exact mapK_ints kvs is h
  · exact ⟨is ++ [x], by rw [List.map_append, List.map_append, h]; rfl⟩
theorem Cnt.put {kvs : List (Key × V)} {c : Int → Nat} {m : Nat} (h : Cnt kvs c m) (t : Int) {x : Int} (hx : x = ((c t + 1 : Nat) : Int)) : Cnt (putK kvs (.inl t) (.int x)) (fun s => if s = t then c s + 1 else c s) (m + 1) := by
  obtain ⟨h1, h2, h3⟩ := h
  refine ⟨putK_ints h1, fun s => ?_, Nat.le_trans (putK_lenN _ _ _) (by omega)⟩
  rw [valV_put]
  by_cases e : s = t
  · subst e
    rw [if_pos rfl, if_pos rfl, if_neg (by omega), hx]
  · rw [if_neg (fun z => e (by simpa using z)), if_neg e]
    exact h2 s
theorem Cnt.get {kvs : List (Key × V)} {c : Int → Nat} {m : Nat} (h : Cnt kvs c m) (t : Int) : (valV kvs (.inl t)).getD (.int 0) = .int (c t : Nat) := by
  rw [h.val t]
  split
  · rename_i e
    rw [e]; rfl
  · rfl
theorem Cnt.mem {kvs : List (Key × V)} {c : Int → Nat} {m : Nat} (h : Cnt kvs c m) {is : List Int} (hi : kvs.map (·.2) = is.map V.int) {t : Int} (ht : c t ≠ 0) : ((c t : Nat) : Int) ∈ is := by
  have hv := h.val t
  rw [if_neg ht] at hv
  unfold valV at hv
  obtain ⟨kv, hk, e⟩ := Option.map_eq_some_iff.mp hv
  have hm : V.int ((c t : Nat) : Int) ∈ is.map V.int := by
    rw [← hi, ← e]
    exact List.mem_map_of_mem (List.mem_of_find?_eq_some hk)
  obtain ⟨y, hy, e2⟩ := List.mem_map.mp hm
  cases e2
  exact hy
theorem Cnt.ext {kvs : List (Key × V)} {c c' : Int → Nat} {m m' : Nat} (h : Cnt kvs c m) (e : ∀ t, c t = c' t) (l : m ≤ m') : Cnt kvs c' m' := by
  obtain rfl : c = c' := funext e
  exact ⟨h.isI, h.val, Nat.le_trans h.len l⟩
/-! ### a list told by its places -/
theorem getR {n l : Nat} {f : Nat → Int} (h : l < n) : ((List.range n).map f)[l]? = some (f l) := by
  rw [List.getElem?_map, List.getElem?_range h]; rfl
theorem setR {n l : Nat} {f : Nat → Int} {v : Int} : ((List.range n).map f).set l v = (List.range n).map fun j => if j = l then v else f j := by
  refine List.ext_getElem? fun k => ?_
  rw [List.getElem?_set]
  by_cases c : l = k
  · subst c
    rw [if_pos rfl]
    by_cases d : l < n
    · rw [if_pos (by simpa using d), getR d, if_pos rfl]
    · rw [if_neg (by simpa using d), List.getElem?_eq_none (by simpa using d)]
  · rw [if_neg c]
    by_cases d : k < n
    · rw [getR d, getR d, if_neg (fun e => c e.symm)]
    · rw [List.getElem?_eq_none (by simpa using d), List.getElem?_eq_none (by simpa using d)]
/-! ### a range with a step; bits to the right -/
instance {σ : L2.St} {H : Hp} {ta : TA} {R : It → Hp → Prop} : Stp (iRng3 ta σ H R) (ta σ H fun vs H1 => ∃ (i j c : Int) (n : Nat), vs = [.int i, .int j, .int c] ∧ RgC i j c n ∧ R (Itc i c n) H1) := ⟨id⟩
theorem forC {σ : L2.St} {H : Hp} {nx : L2.St → Hp → Prop} {rt : VK} {lo c : Int} {n : Nat} {g : TG} {tb : TS} (Pv : Nat → L2.St → Hp → Prop) (h0 : Pv 0 σ H)
    (hs : ∀ (i : Nat) σ H, i < n → Pv i σ H → g (.int (lo + (i : Nat) * c)) σ H fun σ2 H2 => tb ⟨Pv (i + 1), rt, nx, Pv (i + 1)⟩ σ2 H2) (hd : ∀ σ H, Pv n σ H → nx σ H) :
    ∃ W : Nat → Nat → L2.St → Hp → Prop, (∃ m, W 0 m σ H) ∧ ∀ i m σ H, W i m σ H →
      ((Itc lo c n).stop i H ∧ nx σ H) ∨ ((Itc lo c n).go i H ∧ ∃ N : L2.St → Hp → Prop, (∀ σ' H', N σ' H' → ∃ m', m' < m ∧ W (i + 1) m' σ' H') ∧ ∀ x H', (Itc lo c n).yld i H x H' → g x σ H' fun σ2 H2 => tb ⟨N, rt, nx, N⟩ σ2 H2) :=
  for_rangeC (D := ⟨nx, rt, fun _ _ => False, fun _ _ => False⟩) Pv h0 hs hd
def xShr : R2 := rI (fun _ j => 0 ≤ j) fun i j => .int (i / 2 ^ j.toNat)
theorem k_shr {H : Hp} {Q : VK} {i j : Int} (hc : 0 ≤ j) (h : Q (.int (i / 2 ^ j.toNat)) H) : xShr (.int i) (.int j) H Q := ⟨i, j, rfl, rfl, hc, h⟩
/-! ### dict(d), len(d), k in d -/
def rDictD : List V → Hp → VK → Prop := fun xs H Q => ∃ (a : Addr) (kvs : List (Key × V)), xs = [.ref a] ∧ Rd H a (.dK kvs) ∧ ∀ p, H p = none → Q (.ref p) (upd H p (.dK kvs))
theorem q_dictD {X : Cx} : CallR X (.type "dict") rDictD := call_dictD
def rLenD : List V → Hp → VK → Prop := fun xs H Q => ∃ (a : Addr) (kvs : List (Key × V)), xs = [V.ref a] ∧ H a = some (.dK kvs) ∧ Q (.int kvs.length) H
theorem q_lenD {X : Cx} : CallR X (.builtin "len") rLenD := call_lenD
section
variable {σ : L2.St} {H : Hp} {Q : VK} {td ty : TE} {p : Addr} {kvs : List (Key × V)} {t : Int}
def iD (neg : Bool) (y x : V) (H : Hp) (Q : VK) : Prop := ∃ a o, x = .ref a ∧ DGet H a y o ∧ Q (.bl (if neg then !o.isSome else o.isSome)) H
instance : Stp (tDIn ty td σ H Q) (ty σ H fun y H1 => td σ H1 fun x H2 => iD false y x H2 Q) := ⟨id⟩
instance : Stp (tDNotIn ty td σ H Q) (ty σ H fun y H1 => td σ H1 fun x H2 => iD true y x H2 Q) := ⟨id⟩
theorem k_iD {neg : Bool} (e : H p = some (.dK kvs)) (h : Q (.bl (if neg then !(valV kvs (.inl t)).isSome else (valV kvs (.inl t)).isSome)) H) : iD neg (.int t) (.ref p) H Q := ⟨p, _, rfl, DGet.k (k := .inl t) e, h⟩
theorem k_dictD (e : H p = some (.dK kvs)) (h : ∀ q H', H q = none → Same H H' → H' q = some (.dK kvs) → Q (.ref q) H') : rDictD [.ref p] H Q := ⟨p, kvs, rfl, .inl e, fun q nq => h q _ nq (same_new nq) upd_same⟩
theorem k_lenD (e : H p = some (.dK kvs)) (h : Q (.int kvs.length) H) : rLenD [.ref p] H Q := ⟨p, kvs, rfl, e, h⟩
end
theorem u65 {k : Nat} {A : Around} (r : Room k A) : A.units + 65 < cLine := by have := r.un; omega
end Cm

namespace HT
open PySem PySem.Spec PyProof.Rows
section
variable {prog : Program} {w : World} {A : Around} {E : Value → Shared → Prop} {s : Shared}
/-! ### t[::-1] -/
theorem sliceApplied_rev {sl : Addr} {vs : Value} {n : Nat} {Q : Int × Int × Nat → Shared → Prop} (hs : s.heap.IsSliceOf sl .none .none vs) (ps : IsPart vs (some (-1)))
    (h : Q ((n : Int) - 1, -1, n) s) : wpAny (model prog w) A (Builtin.Slice.sliceApplied (.ref sl) (pure (n : Int))) Q E s := by
  obtain ⟨os, hos, hcs, hds⟩ := id hs
  unfold Builtin.Slice.sliceApplied Builtin.Slice.sliceFields
  refine wpAny_bind (wpAny_bind (wpAny_field hos hds (x := .none) rfl (wpAny_bind (wpAny_field hos hds (x := .none) rfl (wpAny_bind (wpAny_field hos hds (x := vs) rfl (wpAny_pure ?_)))))))
  refine wpAny_bind (slicePart_ ps ?_)
  show wpAny _ _ (if ((-1 : Int) == 0) = true then _ else _) _ _ s
  rw [if_neg (by decide)]
  refine wpAny_bind (slicePart_none (wpAny_bind (slicePart_none (wpAny_bind (wpAny_pure ?_)))))
  show wpAny _ _ (match Builtin.Slice.sliceAdjust none none (-1) (n : Int) with | (lo, hi) => pure (lo, (-1 : Int), Builtin.Slice.slicePlaces lo hi (-1))) _ _ s
  rw [show Builtin.Slice.sliceAdjust none none (-1) (n : Int) = ((n : Int) - 1, -1) by unfold Builtin.Slice.sliceAdjust; simp]
  show wpAny _ _ (pure ((n : Int) - 1, (-1 : Int), Builtin.Slice.slicePlaces ((n : Int) - 1) (-1) (-1))) _ _ s
  have e : Builtin.Slice.slicePlaces ((n : Int) - 1) (-1) (-1) = n := by
    unfold Builtin.Slice.slicePlaces
    rw [if_neg (by decide)]
    split
    · rw [show (- -1 : Int) = 1 by decide, Int.ediv_one]; omega
    · omega
  rw [e]
  exact wpAny_pure h
theorem fm_congr {α β : Type} {f g : α → Option β} : ∀ l : List α, (∀ x ∈ l, f x = g x) → l.filterMap f = l.filterMap g
  | [], _ => rfl
  | a :: r, h => by
    rw [List.filterMap_cons, List.filterMap_cons, h a List.mem_cons_self, fm_congr r fun x hx => h x (List.mem_cons_of_mem _ hx)]
theorem pick_rev (xs : Array Value) : ((List.range xs.size).filterMap fun (m : Nat) => xs[((xs.size : Int) - 1 + (m : Int) * -1).toNat]?).toArray = xs.toList.reverse.toArray := by
  congr 1
  refine List.ext_getElem? fun i => ?_
  have e : (List.range xs.size).filterMap (fun (m : Nat) => xs[((xs.size : Int) - 1 + (m : Int) * -1).toNat]?) = (List.range xs.size).map fun m => xs.toList.getD (xs.size - 1 - m) .none := by
    rw [← List.filterMap_eq_map]
    refine fm_congr _ fun m hm => ?_
    have hm' := List.mem_range.mp hm
    have : ((xs.size : Int) - 1 + (m : Int) * -1).toNat = xs.size - 1 - m := by omega
    rw [this]
    have hl : xs.size - 1 - m < xs.size := by omega
    simp [List.getD_eq_getElem?_getD, hl]
  rw [e, List.getElem?_map]
  by_cases c : i < xs.size
  · rw [List.getElem?_range c, List.getElem?_reverse (by simpa using c)]
    have hl : xs.size - 1 - i < xs.size := by omega
    simp [List.getD_eq_getElem?_getD, hl]
  · rw [List.getElem?_eq_none (by simpa using c), List.getElem?_eq_none (by simpa using c)]
    rfl
theorem getItem_tuple_rev {t sl : Addr} {items : Array Value} {vs : Value} {Q : Value → Shared → Prop} (ht : IsTup s.heap t items) (hs : s.heap.IsSliceOf sl .none .none vs) (ps : IsPart vs (some (-1)))
    (h : Q (.ref s.heap.objs.size) { s with heap := s.heap.push { cls := .type "tuple", data := .seq items.toList.reverse.toArray } })
    (hsz : items.size ≤ sizeLine) : wpAny (model prog w) A (getItem (.ref t) (.ref sl)) Q E s := by
  have htake : sizeOk (.seq items.toList.reverse.toArray) := by
    show items.toList.reverse.toArray.size ≤ sizeLine
    rw [List.size_toArray, List.length_reverse, Array.length_toList]
    exact hsz
  obtain ⟨os, hos, hcs, hds⟩ := id hs
  have hTs : s.TypeIs (.ref sl) "slice" := ⟨os, hos, hcs⟩
  unfold getItem
  try with_reducible refine wpAny_holding ?_
  first | refine wpAny_bind (wpAny_pure ?_) | skip
  refine wpAny_bind (wpAny_sequenceKey ht.typeIs (by decide) ?_)
  refine wpAny_bind (wpAny_callSpecial?_slot (name := Str.ofString "__getitem__") ht.typeIs PyProof.Rows.slot_tuple_getitem
    (wpAny_call_entry PyProof.Rows.slot_tuple_getitem ht.typeIs entry_tuple_getitem ?_ (args_tuple_getitem _ _)))
  show wpAny _ _ (Builtin.Tuple.tupleItemsOf (.ref t) >>= _) _ _ s
  refine wpAny_bind (tupleItemsOf_ ht ?_)
  refine wpAny_bind (wpAny_typeOf hTs ?_)
  rw [if_pos (by decide)]
  refine wpAny_bind (sliceApplied_rev hs ps ?_)
  have hno : ¬ ((((items.size : Int) - 1) == 0 && (-1 : Int) == 1 && items.size == items.size) = true) := by
    intro q
    rw [Bool.and_eq_true, Bool.and_eq_true] at q
    exact absurd q.1.2 (by decide)
  show wpAny _ _ (if (((items.size : Int) - 1) == 0 && (-1 : Int) == 1 && items.size == items.size) = true then _ else _) _ _ s
  rw [if_neg hno, pick_rev]
  first
    | exact wpAny_bind (m := Builtin.Tuple.tupleExact _) (wpAny_newObj_type (wpAny_pure ⟨_, rfl, wpAny_pure h⟩) htake)
    | exact wpAny_bind (m := Builtin.Tuple.tupleExact _) (wpAny_newObj_type (wpAny_bind (wpAny_pure (wpAny_pure ⟨_, rfl, wpAny_pure h⟩))) htake)
/-! ### list(reversed(list)) -/
end
end HT
namespace HT
open PySem PySem.Spec PyProof.Rows L2 RT
section
variable {prog : Program} {w : World} {A : Around} {E : Value → Shared → Prop} {s : Shared}
theorem extend_rev {R : Result → Shared → Prop} {it l S : Addr} {items : Array Value} {c0 : Nat} (hh : A.handled = none) (res : Value) (hit : s.heap.IsRevIter it l ((items.size : Int) - 1)) (hl : s.heap.IsList l items) (hne : l ≠ it) (hn : items.size ≤ sizeLine) (hSi : S ≠ it) (hSl : S ≠ l)
    (hS : s.heap.get? S = some { cls := .type "list", data := .seq #[] c0 })
    (hR : ∀ (h' : Heap) (tk : Nat) (acc : Array Value) (c' : Nat), (∀ b o, b ≠ it → b ≠ S → s.heap.get? b = some o → h'.get? b = some o) → h'.get? S = some { cls := .type "list", dict := none, data := .seq acc c', slots := #[] } → ItemsOf (fun i v => items[items.size - 1 - i]? = some v) acc items.size → R (.ok (.ret res)) { s with heap := h', toks := tk }) :
    wpAny (model prog w) A.in1 (Builtin.List.listExtendWith (.ref S) (.ref it) res)
      (fun fin s' => match fin with | .done f => R (.ok f) s' | .again c' => c'.quiet = true ∧ codeAny (model prog w) A c' R s') (fun e s' => R (.error e) s') s := by
  have W := (Walks.listRev (prog := prog) (w := w) (A := A.in1) hh it l hne items).toS
  have hSf : S ∉ [it, l] := by simp only [List.mem_cons, List.not_mem_nil, or_false, not_or]; exact ⟨hSi, hSl⟩
  have hT : s.TypeIs (.ref it) "list_reverseiterator" := hit.typeIs
  have h1 : Builtin.List.listSameRef (.ref S) (.ref it) = false := by simp [Builtin.List.listSameRef, hSi]
  unfold Builtin.List.listExtendWith
  refine wpAny_bind (wpAny_typeOf hT ?_)
  rw [if_neg (by rw [h1]; decide)]
  refine wpAny_bind (wpAny_pyIter_revIter hit ?_)
  refine wpAny_bind (wpAny_holding ?_)
  unfold Builtin.List.listLengthHint
  refine wpAny_bind (wpAny_specialOf hT nolen_lri ?_)
  show wpAny _ A.in1 (specialOf (Value.ref it) (Str.ofString "__length_hint__") >>= _) _ _ _
  refine wpAny_bind (wpAny_specialOf hT hint_lri ?_)
  generalize hid : ("list_reverseiterator.__length_hint__" : String) = id0
  wp_delta
  rw [show splitId id0 = some ("list_reverseiterator", "__length_hint__") from by subst hid; decide +kernel]
  subst hid
  refine wpAny_bind (wpAny_isInstance (b := true) hT (by rw [isSubtype_type]; kernel_rfl) ?_)
  refine wpAny_pure ?_
  rw [if_neg (by decide)]
  have e0 : ((items.size : Nat) : Int) - 1 - ((0 : Nat) : Int) = (items.size : Int) - 1 := by omega
  refine wpAny_pure ⟨plainId_quiet F.plain_extend_loop _, codeAny_extend_loopS W hn _ hSf res items.size 0 _ _ _ rfl (Nat.zero_le _) ⟨Nat.zero_le _, by rw [e0]; exact hit, hl⟩ hS (ItemsOf.nil _) fun s' acc' c' hm hS' hacc => ?_⟩
  rw [Moved.eq_with hm]
  refine hR s'.heap s'.toks acc' c' (fun b o hb hb2 e => hm.heap b o (fun hmem => ?_) e) hS' hacc
  rcases List.mem_cons.mp hmem with e' | hmem
  · exact hb2 e'
  · exact hb (List.mem_singleton.mp hmem)
theorem list_init_rev {R : Result → Shared → Prop} {it l S : Addr} {items : Array Value} (hh : A.handled = none) (hit : s.heap.IsRevIter it l ((items.size : Int) - 1)) (hl : s.heap.IsList l items) (hne : l ≠ it) (hn : items.size ≤ sizeLine) (hSi : S ≠ it) (hSl : S ≠ l)
    (hS : s.heap.get? S = some { cls := .type "list", data := .seq #[] })
    (hR : ∀ (h' : Heap) (tk : Nat) (acc : Array Value) (c' : Nat), (∀ b o, b ≠ it → b ≠ S → s.heap.get? b = some o → h'.get? b = some o) → h'.get? S = some { cls := .type "list", dict := none, data := .seq acc c', slots := #[] } → ItemsOf (fun i v => items[items.size - 1 - i]? = some v) acc items.size → R (.ok (.ret .none)) { s with heap := h', toks := tk }) :
    wpAny (model prog w) A.in1 (Builtin.«list.__init__» ⟨[.ref S, .ref it], []⟩)
      (fun fin s' => match fin with | .done f => R (.ok f) s' | .again c' => c'.quiet = true ∧ codeAny (model prog w) A c' R s') (fun e s' => R (.error e) s') s := by
  show wpAny _ A.in1 (do let old ← Builtin.List.listItems (.ref S); Builtin.List.listUpdate (.ref S) (fun _ => #[]); letGo old.toList.reverse; Builtin.List.listExtendWith (.ref S) (.ref it) .none) _ _ s
  refine wpAny_bind ?_
  unfold Builtin.List.listItems
  refine wpAny_bind (wpAny_seqItems hS rfl (wpAny_pure ?_))
  show wpAny _ A.in1 (updateSeq S (fun _ => #[]) >>= fun _ => letGo (#[] : Array Value).toList.reverse >>= fun _ => Builtin.List.listExtendWith (.ref S) (.ref it) .none) _ _ s
  refine wpAny_bind (wpAny_updateSeq hS rfl ?_)
  have hS2 := Heap.get?_update_self (Obj.mapSeq (fun _ => (#[] : Array Value))) hS rfl
  have oth : ∀ b o, b ≠ S → s.heap.get? b = some o → (s.heap.update S (Obj.mapSeq (fun _ => (#[] : Array Value)))).get? b = some o :=
    fun b o hb e => (Heap.get?_update_other _ _ (Ne.symm hb)).trans e
  refine wpAny_bind (wpAny_letGo ?_)
  have hl2 : (s.heap.update S (Obj.mapSeq (fun _ => (#[] : Array Value)))).IsList l items := by
    obtain ⟨o, e, r⟩ := hl
    exact ⟨o, oth _ _ (Ne.symm hSl) e, r⟩
  refine extend_rev hh .none (hit.at fun o e => oth _ _ (Ne.symm hSi) e) hl2 hne hn hSi hSl hS2 fun h' tk acc' c' hk hS' hacc => ?_
  exact hR h' tk acc' c' (fun b o hb hb2 e => hk b o hb hb2 (oth b o hb2 e)) hS' hacc
theorem call_list_rev {it l : Addr} {items : Array Value} {Q : Value → Shared → Prop} (hh : A.handled = none) (hit : s.heap.IsRevIter it l ((items.size : Int) - 1)) (hl : s.heap.IsList l items) (hne : l ≠ it) (hn : items.size ≤ sizeLine)
    (hQ : ∀ (h' : Heap) (tk : Nat) (acc : Array Value) (c' : Nat), (∀ b o, b ≠ it → s.heap.get? b = some o → h'.get? b = some o) → h'.get? s.heap.objs.size = some { cls := .type "list", dict := none, data := .seq acc c', slots := #[] } → ItemsOf (fun i v => items[items.size - 1 - i]? = some v) acc items.size →
      Q (.ref s.heap.objs.size) { s with heap := h', toks := tk }) :
    wpAny (model prog w) A (call (.type "list") [.ref it]) Q E s := by
  obtain ⟨oi, hoi, _⟩ := id hit
  obtain ⟨ol, hol, _⟩ := id hl
  have hSi : s.heap.objs.size ≠ it := Nat.ne_of_gt (Heap.lt_size hoi)
  have hSl : s.heap.objs.size ≠ l := Nat.ne_of_gt (Heap.lt_size hol)
  refine callType_codes (Q₁ := fun obj s₁ => obj = .ref s.heap.objs.size ∧ s₁ = { s with heap := s.heap.push { cls := .type "list", data := .seq #[] } }) F.called_list (F.typeCall_list_1 _) F.entry_list_init
    (code_list_new _ ⟨rfl, rfl⟩) fun obj s₁ h₁ => ?_
  obtain ⟨rfl, rfl⟩ := h₁
  have hS : (s.heap.push { cls := .type "list", data := .seq #[] }).get? s.heap.objs.size = some { cls := .type "list", data := .seq #[] } := Heap.get?_push_size _ rfl
  refine ⟨⟨_, hS, rfl⟩, F.args_list_init_2 _ _, list_init_rev (A := A.in1) hh (hit.at fun o e => Heap.get?_push_of_some _ e) (hl.push _) hne hn hSi hSl hS fun h' tk acc' c' hk hS' hacc => ?_⟩
  exact ⟨rfl, hQ h' tk acc' c' (fun b o hb e => hk b o hb (Nat.ne_of_lt (Heap.lt_size e)) (Heap.get?_push_of_some _ e)) hS' hacc⟩
end
end HT
namespace Cm
open PySem PySem.Spec PyProof.Rows L2 RT
section
variable {X : Cx}
def rRevT (K : PySem.W.Frag) (x : V) (H : Hp) (Q : VK) : Prop := ∃ a xs, x = .ref a ∧ SqT K H a xs ∧ ∀ p, H p = none → Q (.ref p) (upd H p (.tup xs.reverse))
def tRevT (K : PySem.W.Frag) (te : TE) : TE := fun σ H Q => te σ H fun x H1 => rRevT K x H1 Q
theorem pe_revT {e : Expr} {te : TE} {k : Nat} {p1 p2 p3 pos : Pos} (he : PE X e te) : PE X (.Subscript e (.Slice none none (some (.UnaryOp .USub (.Constant (.int 1) k p1) p2)) p3) pos) (tRevT X.K te) := by
  refine ⟨fun pins s σ H Q I h => ?_⟩
  refine Subscript_ (thn (he.run pins s σ H _ I h) fun v s1 ⟨x, H1, I1, r1, q1⟩ => ?_)
  obtain ⟨a, xs, ex, hx, q⟩ := q1
  subst ex
  cases r1
  have hst : PO X (some (.UnaryOp .USub (.Constant (.int 1) k p1) p2)) (tPart (tUn (rU fun i => .int (-i)) (tC (.int 1)))) := po_some (pe_un un_neg pe_int)
  refine wpAny_Slice (thn (po_none.run pins s1 σ H1 (fun o H2 => o = none ∧ H2 = H1) I1 ⟨rfl, rfl⟩) fun vl s2 ⟨l, H2, I2, pl, el, e2⟩ => ?_)
  subst el e2
  refine thn (po_none.run pins s2 σ H2 (fun o H3 => o = none ∧ H3 = H2) I2 ⟨rfl, rfl⟩) fun vu s3 ⟨u, H3, I3, pu, eu, e3⟩ => ?_
  subst eu e3
  refine thn (hst.run pins s3 σ H3 (fun o H4 => o = some (-1) ∧ H4 = H3) I3 ⟨1, rfl, -1, rfl, rfl, rfl⟩) fun vs s4 ⟨o, H4, I4, ps, eo, e4⟩ => ?_
  subst eo e4
  have I5 : Inv X pins σ H4 { s4 with heap := s4.heap.push { cls := .type "slice", data := .fields #[vl, vu, vs] } } := I4.kept (t' := s4.toks) fun b ob q => Heap.get?_push_of_some _ q
  obtain ⟨its, r, ht, hz⟩ := I5.tuple hx
  have hlen := r.length
  cases pl
  cases pu
  show wpAny (model X.prog X.w) X.A (subscriptTail e (.Slice none none (some (.UnaryOp .USub (.Constant (.int 1) k p1) p2)) p3) (.ref a) (.ref s4.heap.objs.size)) (EP X pins σ Q) X.xe { s4 with heap := s4.heap.push { cls := .type "slice", data := .fields #[.none, .none, vs] } }
  refine tail_any (ops := [.ref a, .ref s4.heap.objs.size]) ht.typeIs (PyProof.Rows.slot_tuple_getitem.lookup) ?_ (by with_unfolding_all rfl)
  refine HT.getItem_tuple_rev ht (Heap.IsSliceOf.new _ .none .none vs) ps ?_ (by rw [List.size_toArray]; omega)
  refine ⟨.ref _, _, I5.laid (t' := s4.toks) (o := .tup xs.reverse) (fun b ob q => Heap.get?_push_of_some _ q) (Nat.le_refl _) ?_, rfl, q _ (I5.hok.fresh (Nat.le_refl _))⟩
  exact ⟨by rw [List.length_reverse]; exact hz, _, r.reverse, IsTup.new _ _⟩
end
instance {K : PySem.W.Frag} {σ : L2.St} {H : Hp} {Q : VK} {te : TE} : Stp (tRevT K te σ H Q) (te σ H fun x H1 => rRevT K x H1 Q) := ⟨id⟩
theorem k_revT {K : PySem.W.Frag} {H : Hp} {Q : VK} {a : Addr} {xs : List V} (hs : SqT K H a xs) (h : ∀ p H', H p = none → Same H H' → H' p = some (.tup xs.reverse) → Q (.ref p) H') : rRevT K (.ref a) H Q := ⟨a, xs, rfl, hs, fun p np => h p _ np (same_new np) upd_same⟩
/-! ### is, is not of truths -/
def xIsB : R2 := rIsB
def xNotB : R2 := rNotB
instance {a b : Bool} {H : Hp} {Q : VK} : Stp (xIsB (.bl a) (.bl b) H Q) (Q (.bl (decide (a = b))) H) := ⟨fun h => ⟨a, b, rfl, rfl, h⟩⟩
instance {a b : Bool} {H : Hp} {Q : VK} : Stp (xNotB (.bl a) (.bl b) H Q) (Q (.bl (!decide (a = b))) H) := ⟨fun h => ⟨a, b, rfl, rfl, h⟩⟩
/-! ### tuple(xs) of a list -/
def rTupOf (K : PySem.W.Frag) : List V → Hp → VK → Prop := fun xs H Q => ∃ p ys, xs = [.ref p] ∧ ((SqL K H p ys ∧ ∀ l, H l = none → Q (.ref l) (upd H l (.tup ys))) ∨ (SqT K H p ys ∧ Q (.ref p) H))
theorem q_tupOf {X : Cx} : CallR X (.type "tuple") (rTupOf X.K) := call_tuple_of
theorem k_tupOf {K : PySem.W.Frag} {H : Hp} {Q : VK} {p : Addr} {ys : List V} (hs : SqL K H p ys) (h : ∀ l H', H l = none → Same H H' → H' l = some (.tup ys) → Q (.ref l) H') : rTupOf K [.ref p] H Q := ⟨p, ys, rfl, .inl ⟨hs, fun l nl => h l _ nl (same_new nl) upd_same⟩⟩
/-! ### [d[k] for k in d] -/
theorem lc_vals {σ : L2.St} {H : Hp} {Q : VK} {p : Addr} {kvs : List (Key × V)} {i l : Nat} (hd : H p = some (.dK kvs)) (hv0 : (wipe σ [l])[i]? = some (some (.ref p)) ∧ σ[i]? = some (some (.ref p))) (hv : ∀ x : V, ((wipe σ [l]).set l (some x))[i]? = some (some (.ref p))) (hl : ∀ x : V, ((wipe σ [l]).set l (some x))[l]? = some (some x)) (hwp : ∀ x : V, wipe ((wipe σ [l]).set l (some x)) [l] = wipe σ [l])
    (hn : kvs.length ≤ 50000) (nd : ∀ kv ∈ kvs, valV kvs kv.1 = some kv.2) (h : ∀ D H', H D = none → Same H H' → H' D = some (.lst (kvs.map (·.2))) → Q (.ref D) H') :
    tLockE (tLc (iKeys (tVar i)) (gName l) tYes (tDGet (tVar i) (tVar l)) [l]) σ H Q := by
  refine ⟨p, .dK kvs, hd, trivial, fun od => ?_⟩
  refine ⟨_, hv0.2, p, od, rfl, .inl ⟨kvs, upd_same, fun D nD => ?_⟩⟩
  have Dp : D ≠ p := fun z => by rw [z, upd_same] at nD; cases nD
  have nD' : H D = none := by rw [upd_ne Dp] at nD; exact nD
  refine lc_it walk_keys (fun j H' => H' = upd (upd H p (.frz od (.dK kvs))) D (.lst ((kvs.take j).map (·.2)))) (by simp) (fun j H' _ e => by rw [e, upd_ne (fun z => Dp z.symm), upd_same]) ?_ ?_
  · rintro j x H1 H2 hj rfl ⟨rfl, k, v, hk, rfl⟩
    refine ⟨hwp _, ?_⟩
    refine k_yes (iteT ?_)
    refine ⟨_, hv _, _, hl _, p, v, rfl, .inl ⟨kvs, k, .inr ⟨od, by rw [upd_ne (fun z => Dp z.symm), upd_same]⟩, rfl, (nd _ (List.mem_of_getElem? hk)).symm⟩, _, upd_same, szl (by rw [List.length_map, List.length_take]; omega), ?_⟩
    rw [upd_upd, List.take_add_one, hk, List.map_append]
    rfl
  · rintro H1 rfl
    refine ⟨by rw [upd_ne (fun z => Dp z.symm), upd_same], ?_⟩
    refine h D _ nD' (fun b o hb => ?_) ?_
    · by_cases c : b = p
      · rw [c, upd_same, ← hd, ← c, hb]
      · have bD : b ≠ D := fun z => by rw [z, nD'] at hb; cases hb
        rw [upd_ne c, upd_ne bD, upd_ne c]; exact hb
    · rw [upd_ne Dp, upd_same, List.take_length]
/-! ### d.get(k) -/
def gD1N (a : Addr) (y : V) (H : Hp) (Q : VK) : Prop := ∃ o, DGet H a y o ∧ Q (o.getD .non) H
instance {σ : L2.St} {H : Hp} {Q : VK} {td ty : TE} : Stp (tDGet1 td ty σ H Q) (td σ H fun x H1 => aD x H1 fun a => ty σ H1 fun y H2 => gD1N a y H2 Q) := ⟨id⟩
theorem k_gD1N {H : Hp} {Q : VK} {p : Addr} {kvs : List (Key × V)} {t : Int} (e : H p = some (.dK kvs)) (h : Q ((valV kvs (.inl t)).getD .non) H) : gD1N p (.int t) H Q := ⟨_, DGet.k (k := .inl t) e, h⟩
/-! ### list(reversed(xs)) of a list -/
section
variable {X : Cx}
def rLRv (K : PySem.W.Frag) (x : V) (H : Hp) (Q : VK) : Prop := ∃ a xs, x = .ref a ∧ SqL K H a xs ∧ ∀ p, H p = none → Q (.ref p) (upd H p (.lst xs.reverse))
def tLRv (K : PySem.W.Frag) (te : TE) : TE := fun σ H Q => te σ H fun x H1 => rLRv K x H1 Q
theorem pe_lRv {e : Expr} {te : TE} {p p2 pos pos2 : Pos} (hc : X.calm = true) (hg : Gl X "list") (hm : X.mg "list" = none) (hg2 : Gl X "reversed") (hm2 : X.mg "reversed" = none) (he : PE X e te)
    (hs : starEach [e] X.env = (false, eval e X.env) :: starEach [] X.env := by rfl)
    (hs2 : starEach [.Call (.Name "reversed" p2) [e] [] pos2] X.env = (false, eval (.Call (.Name "reversed" p2) [e] [] pos2) X.env) :: starEach [] X.env := by rfl) :
    PE X (.Call (.Name "list" p) [.Call (.Name "reversed" p2) [e] [] pos2] [] pos) (tLRv X.K te) := by
  refine ⟨fun pins s σ H Q I h => ?_⟩
  refine Call_ (ld_blt I hg hm boot_list (PyProof.Rows.callWith_type1 (args_cons (Call_ (ld_blt I hg2 hm2 PyProof.Rows.boot_reversed (PyProof.Rows.callWith_type1 (args_cons (thn (he.run pins s σ H _ I h) fun u s1 ⟨v, H1, I1, r1, q1⟩ => args_nil ?_) hs) hs rfl))) hs2) hs2 rfl))
  obtain ⟨a, xs, ev, hq, q⟩ := q1
  subst ev
  obtain rfl : u = Value.ref a := r1
  obtain ⟨its, rv, p', hz⟩ := I1.list hq
  refine call_reversed_list p'.isList (args_nil ?_)
  have k0 : ∀ b o, s1.heap.get? b = some o → (s1.heap.push (revObj a ((its.toArray.size : Int) - 1))).get? b = some o := fun b o e => Heap.get?_push_of_some _ e
  have I2 : Inv X pins σ H1 { s1 with heap := s1.heap.push (revObj a ((its.toArray.size : Int) - 1)) } := I1.kept (t' := s1.toks) k0
  obtain ⟨f0, f1, f2, f3, f4, f5⟩ := I1.fpOk (H' := H1) (b := s1.heap.objs.size) (Nat.le_refl _) (I1.hok.fresh (Nat.le_refl _))
  have hl := p'.isList
  obtain ⟨ol, hol, _⟩ := id hl
  have hne : a ≠ s1.heap.objs.size := Nat.ne_of_lt (Heap.lt_size hol)
  have hn : its.toArray.size ≤ sizeLine := by rw [List.size_toArray, ← rv.length]; exact hz
  refine HT.call_list_rev (s := { s1 with heap := s1.heap.push (revObj a ((its.toArray.size : Int) - 1)) }) (I1.ok.hd hc) ⟨_, Heap.get?_push_size _ rfl, rfl, rfl⟩ (hl.push _) hne hn fun h' tk acc c' hk hS' hi => ?_
  refine ⟨.ref _, upd H1 _ (.lst xs.reverse), I2.turnedNew (t' := tk) (ch := [s1.heap.objs.size]) (fun b o hb e => hk b o (fun z => hb (by rw [z]; exact List.mem_singleton.mpr rfl)) e) (fun b hb => by rw [List.mem_singleton.mp hb]; exact ⟨f0, f1, f2, f3, f4, f5⟩) (Nat.le_refl _) (show ObjOk X.prog X.w _ _ _ (.lst xs.reverse) from ⟨by rw [List.length_reverse]; exact hz, acc.toList, c', vals_rev rv hi, by rw [Array.toArray_toList]; exact hS'⟩), rfl, q _ (I2.hok.fresh (Nat.le_refl _))⟩
instance {K : PySem.W.Frag} {σ : L2.St} {H : Hp} {Q : VK} {te : TE} : Stp (tLRv K te σ H Q) (te σ H fun x H1 => rLRv K x H1 Q) := ⟨id⟩
theorem k_lRv {K : PySem.W.Frag} {H : Hp} {Q : VK} {a : Addr} {xs : List V} (hs : SqL K H a xs) (h : ∀ p H', H p = none → Same H H' → H' p = some (.lst xs.reverse) → Q (.ref p) H') : rLRv K (.ref a) H Q := ⟨a, xs, rfl, hs, fun p np => h p _ np (same_new np) upd_same⟩
end
/-! ### xs + ys of any two lists -/
section
variable {X : Cx}
def rCatS (K : PySem.W.Frag) : R2 := fun x y H Q => ∃ l b xs zs, x = .ref l ∧ y = .ref b ∧ SqL K H l xs ∧ SqL K H b zs ∧ xs.length + zs.length ≤ sizeLine ∧ ∀ p, H p = none → Q (.ref p) (upd H p (.lst (xs ++ zs)))
theorem op_catS : OpR X (binaryOp .Add) (rCatS X.K) := by
  intro pins s σ H x y v u Q I rx ry h
  obtain ⟨l, b, xs, zs, rfl, rfl, hH, hB, hz, q⟩ := h
  cases rx
  cases ry
  obtain ⟨its, r, p1, _⟩ := I.list hH
  obtain ⟨its2, r2, p2, _⟩ := I.list hB
  have l1 := r.length
  have l2 := r2.length
  obtain ⟨⟨cls, dd, data, sl⟩, ho, hc, n, hd⟩ := p1.isList
  obtain ⟨⟨cls2, dd2, data2, sl2⟩, ho2, hc2, n2, hd2⟩ := p2.isList
  simp only at hc hd hc2 hd2
  subst hc hd hc2 hd2
  have e : its.toArray ++ its2.toArray = (its ++ its2).toArray := by simp
  refine concat_meets ⟨_, ho, rfl⟩ ⟨_, ho2, rfl⟩ noFill_list_add seq_list_add PySem.F.slot_list_add PySem.F.entry_list_add (PySem.F.args_list_add_2 _ _) (list_addW l b its.toArray its2.toArray n n2 dd dd2 sl sl2 (by simp only [List.size_toArray]; omega)) ⟨ho, ho2, ?_⟩
  rw [e]
  exact ⟨.ref _, _, I.lnew (t' := s.toks) (r.append r2) (by rw [List.length_append]; exact hz), rfl, q _ I.fresh⟩
theorem k_catS {K : PySem.W.Frag} {H : Hp} {Q : VK} {l b : Addr} {xs zs : List V} (hl : SqL K H l xs) (hb : SqL K H b zs) (hz : xs.length + zs.length ≤ 100000) (h : ∀ p H', H p = none → Same H H' → H' p = some (.lst (xs ++ zs)) → Q (.ref p) H') : rCatS K (.ref l) (.ref b) H Q := ⟨l, b, xs, zs, rfl, rfl, hl, hb, sz hz, fun p np => h p _ np (same_new np) upd_same⟩
end
/-! ### xs.count(k) of a list of tuples and whole numbers -/
def isK (k : Int) : V → Bool
  | .int i => decide (i = k)
  | _ => false
def isKU (k : Int) : Value → Bool
  | .int i _ => decide (i = k)
  | _ => false
theorem isK_rel {k : Int} {v : V} {u : Value} (r : RelV v u) (h : (∃ p, v = .ref p) ∨ ∃ i, v = .int i) : isKU k u = isK k v := by
  rcases h with ⟨p, rfl⟩ | ⟨i, rfl⟩
  · cases r; rfl
  · obtain ⟨t, rfl⟩ := r; rfl
theorem isK_cnt {k : Int} : ∀ {vs : List V} {us : List Value}, Vals vs us → (∀ v ∈ vs, (∃ p, v = .ref p) ∨ ∃ i, v = .int i) → us.countP (isKU k) = vs.countP (isK k)
  | _, _, .nil, _ => rfl
  | v :: vs, u :: us, .cons r rs, h => by
    rw [List.countP_cons, List.countP_cons, isK_rel r (h v List.mem_cons_self), isK_cnt rs fun x hx => h x (List.mem_cons_of_mem _ hx)]
def rCntD (K : PySem.W.Frag) : V → List V → Hp → VK → Prop := fun x xs H Q => ∃ (a : Addr) (ys : List V) (ds : List PyData) (k : Int), x = V.ref a ∧ xs = [.int k] ∧ SqL K H a ys ∧ DpAll K H ys ds ∧ PyData.canLayAll0 ds = true ∧ (∀ d ∈ ds, (∃ es, d = .tuple es) ∨ ∃ i, d = .int i) ∧ Q (.int (ys.countP (isK k) : Nat)) H
theorem lay_mem : ∀ {ds : List PyData}, PyData.canLayAll0 ds = true → ∀ d ∈ ds, d.canLay0 = true
  | [], _, d, h => by cases h
  | a :: r, h, d, hd => by
    have h' : (a.canLay0 && PyData.canLayAll0 r) = true := h
    rw [Bool.and_eq_true] at h'
    rcases List.mem_cons.mp hd with rfl | hd
    · exact h'.1
    · exact lay_mem h'.2 d hd
theorem vals_data {K : PySem.W.Frag} {H : Hp} : ∀ {vs : List V} {us : List Value} {ds : List PyData}, Vals vs us → DpAll K H vs ds → ∀ u ∈ us, ∃ v d, RelV v u ∧ Dp K H v d ∧ d ∈ ds
  | _, _, _, .nil, _, u, hu => by cases hu
  | _, _, _, .cons r rs, .cons h hs, u, hu => by
    rcases List.mem_cons.mp hu with rfl | hu
    · exact ⟨_, _, r, h, List.mem_cons_self⟩
    · obtain ⟨v, d, h1, h2, h3⟩ := vals_data rs hs u hu
      exact ⟨v, d, h1, h2, List.mem_cons_of_mem _ h3⟩
theorem data_kind {K : PySem.W.Frag} {H : Hp} {v : V} {d : PyData} (h : Dp K H v d) (k : (∃ es, d = .tuple es) ∨ ∃ i, d = .int i) : (∃ p, v = .ref p) ∨ ∃ i, v = .int i := by
  rcases k with ⟨es, rfl⟩ | ⟨i, rfl⟩
  · obtain ⟨a, _, e, _⟩ := dp_tup h; exact .inl ⟨a, e⟩
  · exact .inr ⟨i, dp_int h⟩
theorem mt_lcountD {X : Cx} (hu : X.A.units + 64 < cLine) : MtR X "list.count" (rCntD X.K) := by
  intro pins s σ H x xs v us Q I rx rxs h
  obtain ⟨a, ys, ds, k, rfl, rfl, hs, dys, lay, kd, q⟩ := h
  cases rx
  cases rxs with
  | cons ry rt =>
    rename_i uy ut
    cases rt
    obtain ⟨t, rfl⟩ := ry
    obtain ⟨its, rv, ⟨⟨cls, dd, data, sl⟩, n, ho, hc, hdn, hd⟩, hlen⟩ := I.list hs
    simp only at hc hd
    subst hc hd
    refine call_meets PySem.F.slot_list_count ⟨_, ho, rfl⟩ PySem.F.entry_list_count (PySem.F.args_list_count_2 _ _)
      (SeqAt.list_countAt a its.toArray n dd sl (.int k t) (isKU k)) ⟨ho, fun u' hu' => ?_, ?_⟩
    · obtain ⟨w, d, r1, r2, r3⟩ := vals_data rv dys u' (by simpa using hu')
      obtain ⟨as, rd⟩ := Dp.reads I d w u' r2 r1
      have eq := SeqAt.eqAt_reads d (.int k) X.A.in1 s u' (.int k t) as _ rd (Reads.int k t) (lay_mem lay d r3) rfl (by
        have : min d.depth (PyData.int k).depth ≤ 0 := Nat.min_le_right _ _
        have e : X.A.in1.units = X.A.units + 1 := rfl
        rw [e]; omega)
      have e : PyData.eqv d (.int k) = isKU k u' := by
        rw [isK_rel r1 (data_kind r2 (kd d r3))]
        rcases kd d r3 with ⟨es, rfl⟩ | ⟨i, rfl⟩
        · obtain ⟨p, _, rfl, _⟩ := dp_tup r2; rfl
        · cases dp_int r2
          show (i == k) = decide (i = k)
          by_cases c : i = k
          · rw [c, decide_eq_true rfl]; simp
          · rw [decide_eq_false c]; simpa using c
      rw [e] at eq
      exact eq
    · have ec : its.toArray.toList.countP (isKU k) = ys.countP (isK k) := isK_cnt rv fun v hv => by
        obtain ⟨i, hi, e⟩ := List.mem_iff_getElem.mp hv
        obtain ⟨d, hd, dd⟩ := dpa_get dys (show ys[i]? = some v by rw [List.getElem?_eq_getElem hi, e])
        exact data_kind dd (kd d (List.mem_of_getElem? hd))
      refine ⟨.int (ys.countP (isK k) : Nat), H, I.tok _, ⟨s.toks, ?_⟩, q⟩
      show Value.int ((its.toArray.toList.countP (isKU k) : Nat) : Int) s.toks = Value.int ((ys.countP (isK k) : Nat) : Int) s.toks
      rw [ec]
end Cm
namespace HT
open PySem PySem.Spec PyProof.Rows L2
/-! ### a set of whole numbers made of a list, its table in order -/
/-- the set at S holds just the first i numbers -/
def Grown (w : World) (val : Nat → Int) (S : Addr) (i : Nat) (h : Heap) : Prop := SetR w h S (fun k => (firstMet val i).any (· == k)) (firstMet val i).length
section
variable {prog : Program} {w : World} {A : Around} {E : Value → Shared → Prop} {s : Shared}
theorem Grown.next {val : Nat → Int} {S : Addr} {i : Nat} {tk : Tok} {Q : Bool → Shared → Prop} (g : Grown w val S i s.heap) (room : i + 1 < scanBound) (h : ∀ b h', Heap.SameBut S s.heap h' → Grown w val S (i + 1) h' → Q b { s with heap := h' }) :
    wpAny (model prog w) A (setAddHashed S (.int (val i) tk) ((intKind prog w).hash (val i))) Q E s :=
  setR_add_hashed g (Nat.lt_of_le_of_lt (Nat.add_le_add_right (firstMet_length_le val i) 1) room) fun h' sb r => h _ h' sb (by
    unfold Grown
    rw [firstMet_succ, step_length]
    exact r.congr fun k => step_any _ _ k)
theorem grow_all {I : Addr} {fp wr : List Addr} {G : Array GenState → Array GenState → Prop} {n : Nat} {P : Nat → Value → Prop} {St : Nat → Shared → Prop} {R : Result → Shared → Prop} {S : Addr} {val : Nat → Int} {s0 : Shared}
    (W : WalksS prog w A.in1 I fp wr G n P St) (out : S ∉ fp) (hin : ∀ i v, P i v → ∃ t, v = .int (val i) t) (room : n + 1 < scanBound)
    (fin : ∀ z, Moved (S :: wr) G s0 z → Grown w val S n z.heap → R (.ok (.ret .none)) z) :
    ∀ (left i : Nat) (z : Shared), i + left = n → St i z → Moved (S :: wr) G s0 z → Grown w val S i z.heap → codeAny (model prog w) A (.builtin "set.update.loop" ⟨[.ref S, .ref I], []⟩) R z := by
  have away : S ∉ wr := fun y => out (W.sub _ y)
  have wider : ∀ b ∈ wr, b ∈ S :: wr := fun _ y => List.mem_cons_of_mem _ y
  intro left
  induction left with
  | zero =>
    rintro i z e st mv g
    obtain rfl : i = n := e
    refine codeAny_builtin F.entry_set_update_loop ?_
    rw [Around.under_plainId F.plain_set_update_loop _]
    exact wpAny_bind (W.done z _ _ st fun z' m => wpAny_pure (fin z' (Moved.trans W.gtrans mv (m.mono wider)) (g.at fun o y => m.heap S _ away y)))
  | succ left ih =>
    rintro i z e st mv g
    refine codeAny_builtin F.entry_set_update_loop ?_
    rw [Around.under_plainId F.plain_set_update_loop _]
    refine wpAny_bind (W.item i z _ _ (by omega) st fun v z' pv st' m => ?_)
    obtain ⟨t, rfl⟩ := hin i v pv
    have g' : Grown w val S i z'.heap := g.at fun o y => m.heap S _ away y
    refine wpAny_bind (wpAny_holding (m := setAdd S (.int (val i) t)) ?_)
    unfold setAdd
    refine wpAny_holding (wpAny_bind ((intKind prog w).pyHash (k := val i) (intKind_is _ _ _ _) ?_))
    refine Grown.next (s := { z' with toks := z'.toks + 1 }) g' (by omega) fun _ h' sb g2 => ?_
    have keep : ∀ b o, b ≠ S → z'.heap.get? b = some o → h'.get? b = some o := fun b o hb y => by rw [sb.2 b hb]; exact y
    refine wpAny_pure ⟨plainId_quiet F.plain_set_update_loop _, ih (i + 1) _ (by omega) (W.frame _ z' _ _ st' (Nat.le_succ _) fun b hb o y => keep b o (fun c => out (c ▸ hb)) y) ?_ g2⟩
    exact Moved.trans W.gtrans mv ((m.mono wider).then_heap (Nat.le_succ _) fun b o hb y => keep b o (fun c => hb (c ▸ List.mem_cons_self)) y)
/-- the new set, before anything is in it -/
def bareSet (w : World) : Obj := { cls := .type "set", dict := none, data := .set #[] 0 (.fresh 0 0 (!w.params.followText "set-order")) }
theorem new_bare (x : Value) {Q : Value → Shared → Prop} (h : Q (.ref s.heap.objs.size) { s with heap := s.heap.push (bareSet w) }) :
    codeAny (model prog w) A (.call (.builtin "set.__new__") ⟨[.type "set", x], []⟩) (wants Q E) s := by
  refine codeAny_of_tree ?_
  show wpAny _ A.in1 (checkBuiltinCall "set.__new__" ⟨[.type "set", x], []⟩ >>= fun _ => again (.builtin "set.__new__" ⟨[.type "set", x], []⟩)) _ _ s
  refine wpAny_bind (wpAny_of_eq (F.newCall_set_1 x) (wpAny_pure ⟨plainId_quiet F.plain_set_new _, codeAny_builtin F.entry_set_new ?_⟩))
  rw [Around.under_plainId F.plain_set_new _]
  have sub := sub_set_self
  unfold Builtin.«set.__new__» Builtin.Frozenset.newClass
  obtain ⟨hp, g, d, tk, os⟩ := s
  dsimp only
  wp_walk
  exact wpAny_askSetting (wpAny_pure (by dsimp only; simp only [newObj]; exact wpAny_bind (wpAny_alloc (wpAny_pure (wpAny_pure h)))))
/-- set.__init__ of a bare set and a list of whole numbers -/
theorem init_bare {l : Addr} {items : Array Value} {ns : List Int} {R : Result → Shared → Prop} {S : Addr} (hh : A.handled = none) (hS : s.heap.get? S = some (bareSet w)) (hl : s.heap.IsList l items) (hi : IntsAre items.toList ns) (room : items.size + 1 < scanBound)
    (fin : ∀ (h' : Heap) (tk : Nat), Grown w (fun i => ns.getD i 0) S items.size h' → (∀ b o, b ≠ S → s.heap.get? b = some o → h'.get? b = some o) → R (.ok (.ret .none)) { s with heap := h', toks := tk }) :
    wpAny (model prog w) A.in1 (Builtin.«set.__init__» ⟨[.ref S, .ref l], []⟩)
      (fun f s' => match f with | .done f => R (.ok f) s' | .again c => c.quiet = true ∧ codeAny (model prog w) A c R s') (fun e s' => R (.error e) s') s := by
  obtain ⟨⟨cl, dc, dt, so⟩, hol, hcl, nl, hdl⟩ := id hl
  simp only at hcl hdl
  subst hcl hdl
  have noSet := F.sub_list_set
  have noFrozen := F.sub_list_frozenset
  have noDict : (Value.type "list" == Value.type "dict") = false := by decide
  unfold bareSet at hS
  unfold Builtin.«set.__init__» noKeywords Builtin.Frozenset.updateFrom
  generalize eI : pyIter = walkIt
  wp_walk
  subst eI
  refine wpAny_pyIter_list hl ?_
  refine wpAny_bind (wpAny_runValue ?_)
  have lt1 : l < s.heap.objs.size := Heap.lt_size hol
  have ltS : S < s.heap.objs.size := Heap.lt_size hS
  have neS : l ≠ S := fun z => by
    rw [z, hS] at hol
    simp at hol
  have old : ∀ b o, s.heap.get? b = some o → (s.heap.push { cls := .type "list_iterator", data := .fields #[.ref l, .int 0 0] }).get? b = some o := fun b o y => Heap.get?_push_of_some _ y
  refine grow_all (s0 := { s with heap := s.heap.push { cls := .type "list_iterator", data := .fields #[.ref l, .int 0 0] } }) (val := fun i => ns.getD i 0) ((Walks.list (prog := prog) (w := w) (A := A.in1.in1) hh s.heap.objs.size l (Nat.ne_of_lt lt1) items).toS) ?_ (fun i v y => IntsAre.int_at hi i v (by rw [Array.getElem?_toList]; exact y)) room (fun z m g => ?_) items.size 0 _ (by omega) ⟨⟨_, Heap.get?_push_size _ rfl, rfl, rfl⟩, hl.push _⟩ (Moved.refl fun _ => rfl) ?_
  · simp only [List.mem_cons, List.not_mem_nil, or_false, not_or]
    exact ⟨Nat.ne_of_lt ltS, fun z => neS z.symm⟩
  · have ez := Moved.eq_with m
    rw [ez]
    refine wpAny_pure ?_
    show wpAny _ _ (ret Value.none) _ _ _
    refine wpAny_pure (fin z.heap z.toks g fun b o hb y => m.heap b o (fun hm => ?_) (old b o y))
    rcases List.mem_cons.mp hm with hm | hm
    · exact hb hm
    · have e : b = s.heap.objs.size := by simpa using hm
      exact Nat.lt_irrefl _ (e ▸ Heap.lt_size y)
  · have g0 : SetR w (s.heap.push { cls := .type "list_iterator", data := .fields #[.ref l, .int 0 0] }) S (fun _ => false) 0 :=
      ⟨_, #[], 0, _, old _ _ hS, ⟨rfl, rfl, rfl⟩, rfl, (fun e he => by simp at he), (by simp), (fun k => by simp), (by decide), (by rfl), rfl, List.Pairwise.nil, by
        show _ ∨ (!w.params.followText "set-order") = true
        cases w.params.followText "set-order"
        · exact .inr rfl
        · exact .inl rfl⟩
    exact g0
/-- set(xs) of whole numbers, with what sorted needs -/
theorem set_of_ints {l : Addr} {items : Array Value} {ns : List Int} {Q : Value → Shared → Prop} (hh : A.handled = none) (hl : s.heap.IsList l items) (hi : IntsAre items.toList ns) (room : items.size + 1 < scanBound)
    (fin : ∀ (h' : Heap) (tk : Nat), Grown w (fun i => ns.getD i 0) s.heap.objs.size items.size h' → (∀ b o, s.heap.get? b = some o → h'.get? b = some o) → Q (.ref s.heap.objs.size) { s with heap := h', toks := tk }) :
    wpAny (model prog w) A (call (.type "set") [.ref l]) Q E s := by
  have T := F.called_set
  obtain ⟨c, tl, mro⟩ := T.mro
  have made := T.made
  have sub := T.sub
  have known := T.init.lookup
  have nt := T.notType
  have cc := T.canCreate
  have tc := F.typeCall_set_1 (.ref l)
  refine wpAny_call (codeAny_of_tree ?_)
  show wpAny _ _ (callAny (.type "set") _) _ _ _
  refine wpAny_pure ⟨Code.quiet_builtin _ (by decide +kernel), codeAny_builtin F.entry_type_call ?_⟩
  rw [Around.under_plain (weight_type_call_type "set" [.ref l] []) rfl]
  repeat (any_goals (first | assumption | wp_step))
  refine codeAny_mono (new_bare (w := w) (.ref l) (E := E) (Q := fun v z => v = .ref s.heap.objs.size ∧ z = { s with heap := s.heap.push (bareSet w) }) ⟨rfl, rfl⟩) fun r z hr => ?_
  cases r with
  | error e => exact hr
  | ok f =>
    cases f with
    | ret v =>
      obtain ⟨rfl, rfl⟩ := hr
      have hS : (s.heap.push (bareSet w)).get? s.heap.objs.size = some (bareSet w) := Heap.get?_push_size _ rfl
      have bind := T.init.bind (.ref s.heap.objs.size)
      have sub2 : isSubtype (bareSet w).cls (Value.type "set") = pure true := sub
      have known2 := known
      have ty : Shared.TypeIs { s with heap := s.heap.push (bareSet w) } (.ref s.heap.objs.size) "set" := ⟨_, hS, rfl⟩
      repeat (any_goals (first | assumption | wp_step))
      refine codeAny_mono (codeAny_call_builtin (R := wants (fun r z => r = .none ∧ ∃ h' tk, z = { s with heap := h', toks := tk } ∧ Grown w (fun i => ns.getD i 0) s.heap.objs.size items.size h' ∧ ∀ b o, s.heap.get? b = some o → h'.get? b = some o) E) T.init.plain F.entry_set_init (check_set_init_1 ty ?_)) fun r2 z2 h2 => ?_
      · refine init_bare (s := { s with heap := s.heap.push (bareSet w) }) (R := _) (S := s.heap.objs.size) (by simp [hh]) hS (hl.push _) hi room fun h' tk g k => ⟨rfl, h', tk, rfl, g, fun b o y => k b o (Nat.ne_of_lt (Heap.lt_size y)) (Heap.get?_push_of_some _ y)⟩
      · cases r2 with
        | error e => exact h2
        | ok f2 =>
          cases f2 with
          | ret v2 =>
            obtain ⟨rfl, h', tk, rfl, g, k⟩ := h2
            repeat (any_goals (first | assumption | wp_step))
            exact fin h' tk g k
          | _ => exact h2.elim
    | _ => exact hr.elim
end
end HT
namespace Cm
open PySem PySem.Spec PyProof.Rows L2
/-! ### sorted(set(xs)) of whole numbers -/
def rSrtU (K : PySem.W.Frag) (x : V) (H1 : Hp) (Q : VK) : Prop := ∃ (l : Addr) (ns : List Int), x = .ref l ∧ SqL K H1 l (ns.map V.int) ∧ (ns.length ≤ 1000 ∧ unl ns ≤ 60) ∧ ∀ (ms : List Int) (p : Addr), ms.Pairwise (· < ·) → (∀ k, k ∈ ms ↔ k ∈ ns) → H1 p = none → Q (.ref p) (upd H1 p (.lst (ms.map V.int)))
def tSrtU (K : PySem.W.Frag) (ta : TE) : TE := fun σ H Q => ta σ H fun x H1 => rSrtU K x H1 Q
theorem met_mem {ns : List Int} (k : Int) : (PyProof.Rows.firstMet (fun i => ns.getD i 0) ns.length).any (· == k) = true ↔ k ∈ ns := by
  rw [firstMet_any]
  have e : (List.range ns.length).map (fun i => ns.getD i 0) = ns := by
    refine List.ext_getElem? fun i => ?_
    rw [List.getElem?_map]
    by_cases c : i < ns.length
    · rw [List.getElem?_range c, List.getElem?_eq_getElem c]
      simp [List.getD_eq_getElem?_getD, c]
    · rw [List.getElem?_eq_none (by simpa using c), List.getElem?_eq_none (by simpa using c)]; rfl
  rw [e, List.any_eq_true]
  constructor
  · rintro ⟨x, hx, h⟩; rw [← eq_of_beq h]; exact hx
  · intro h; exact ⟨k, h, beq_self_eq_true k⟩
theorem pe_srtU {X : Cx} {a : Expr} {ta : TE} {p p2 q pos : Pos} (cm : X.calm = true) (gl : Gl X "sorted") (ml : X.mg "sorted" = none) (gs : Gl X "set") (ms : X.mg "set" = none) (pa : PE X a ta)
    (se : starEach [a] X.env = (false, eval a X.env) :: starEach [] X.env := by rfl) : PE X (.Call (.Name "sorted" p) [.Call (.Name "set" p2) [a] [] q] [] pos) (tSrtU X.K ta) := by
  constructor
  intro pins s σ H Q I h
  refine Call_ (ld_blt I gl ml boot_sorted (PyProof.Rows.callWith_builtin1 (PyProof.Rows.args_cons ?_ rfl) rfl rfl))
  refine Call_ (ld_blt I gs ms boot_set (PyProof.Rows.callWith_type1 (PyProof.Rows.args_cons (thn (pa.run pins s σ H _ I h) fun v s1 ⟨x, H1, J, rx, qx⟩ => PyProof.Rows.args_nil ?_) se) se rfl))
  obtain ⟨l, ns, rfl, hq, ⟨hl, few⟩, qx⟩ := qx
  cases rx
  obtain ⟨its, rv, pl, hz⟩ := J.list hq
  have size : its.toArray.size = ns.length := by rw [List.size_toArray, ← rv.length, List.length_map]
  unfold unl at few
  refine HT.set_of_ints (J.ok.hd cm) pl.isList (by simpa using RZ.intsAre_vals rv) (by rw [size]; unfold scanBound; omega) fun h' tk g k => PyProof.Rows.args_nil ?_
  rw [size] at g
  have J2 : Inv X pins σ H1 { s1 with heap := h', toks := tk } := J.kept k
  have g2 : SetR X.w ({ s1 with heap := h', toks := tk } : Shared).heap s1.heap.objs.size _ _ := g
  generalize s1.heap.objs.size = sa at g2 ⊢
  generalize ({ s1 with heap := h', toks := tk } : Shared) = s2 at J2 g2 ⊢
  refine sorted_set g2 (J2.ok.hd cm) (by omega) fun s3 p out c ms keep gens os hp hg hin hs hm len => ?_
  have fresh : H1 p = none := J2.hok.fresh hp
  have es : s3 = { s2 with heap := s3.heap, gens := s3.gens, drawn := s3.drawn, toks := s3.toks } := by
    cases s3
    cases s2
    cases os
    rfl
  rw [es]
  have line : (ms.map V.int).length ≤ sizeLine := by
    rw [List.length_map, len]
    exact sz (by omega)
  have J3 : Inv X pins σ (upd H1 p (.lst (ms.map V.int))) { s2 with heap := s3.heap, gens := s3.gens, drawn := s3.drawn, toks := s3.toks } :=
    J2.call (ch := []) (Un.laid keep hp fresh) (J2.hok.laid keep hp ⟨line, out.toList, c, vals_of_ints hin, hg⟩) (by rw [gens]; exact J2.bare) (fun _ z => nomatch z)
  exact ⟨.ref p, _, J3, rfl, qx ms p hs (fun k => (hm k).trans (met_mem k)) fresh⟩
instance {K : PySem.W.Frag} {σ : L2.St} {H : Hp} {Q : VK} {te : TE} : Stp (tSrtU K te σ H Q) (te σ H fun x H1 => rSrtU K x H1 Q) := ⟨id⟩
theorem k_srtU {K : PySem.W.Frag} {H : Hp} {Q : VK} {l : Addr} {ns : List Int} (hs : SqL K H l (ns.map V.int)) (hl : ns.length ≤ 1000) (hu : unl ns ≤ 60) (h : ∀ (ms : List Int) (p : Addr) H', ms.Pairwise (· < ·) → (∀ k, k ∈ ms ↔ k ∈ ns) → H p = none → Same H H' → H' p = some (.lst (ms.map V.int)) → Q (.ref p) H') : rSrtU K (.ref l) H Q := ⟨l, ns, rfl, hs, ⟨hl, hu⟩, fun ms p a b c => h ms p _ a b c (same_new c) upd_same⟩
end Cm
namespace Cm
open PySem PySem.Spec PyProof.Rows L2
/-! ### x (not) in range(..) -/
theorem rg_has (o : Addr) (p q st x : Int) (k1 k2 k3 k4 : Tok) :
    Meets (Builtin.«range.__contains__» ⟨[.ref o, .int x k4], []⟩) (fun _ W z => z.heap.get? o = some { cls := .type "range", data := .fields #[.int p k1, .int q k2, .int st k3], dict := none, slots := #[] } ∧ W (.ok (.ret (.bool (Builtin.Range.rangePlace? p q st x).isSome))) z) :=
  .of_wp fun prog w A W z hz => by
    obtain ⟨hp, gg, dd, kk, ss⟩ := z
    obtain ⟨there, hz⟩ := hz
    wp_walk
    exact ⟨_, rfl, hz⟩
def RgV (vs : List V) (a b c : Int) : Prop := (vs = [.int b] ∧ a = 0 ∧ c = 1) ∨ (vs = [.int a, .int b, .int c] ∧ 0 < c ∧ c < 1073741824)
def inRgB (neg : Bool) (a b c i : Int) : Bool := if neg then !(Builtin.Range.rangePlace? a b c i).isSome else (Builtin.Range.rangePlace? a b c i).isSome
def tInRg (neg : Bool) (ta : TE) (tA : TA) : TE := fun σ H Q => ta σ H fun x H1 => tA σ H1 fun vs H2 => ∃ i a b c, x = .int i ∧ RgV vs a b c ∧ Q (.bl (inRgB neg a b c i)) H2
def rgOp : Bool → CmpOp
  | true => .NotIn
  | false => .In
theorem cmp_rg {X : Cx} {neg : Bool} {pins : List (Addr × Obj)} {s : Shared} {σ : L2.St} {H : Hp} {Q : VK} {o : Addr} {p q st x : Int} {k1 k2 k3 k4 : Tok} (J : Inv X pins σ H s) (ho : s.heap.get? o = some { cls := .type "range", data := .fields #[.int p k1, .int q k2, .int st k3] })
    (h : Q (.bl (inRgB neg p q st x)) H) : wpAny (model X.prog X.w) X.A (compareOp (rgOp neg) (.int x k4) (.ref o)) (EP X pins σ Q) X.xe s := by
  have go : ∀ {R : Bool → Shared → Prop}, R (Builtin.Range.rangePlace? p q st x).isSome s → wpAny (model X.prog X.w) X.A (contains (Value.ref o) (Value.int x k4)) R X.xe s := fun h =>
    wpAny_contains_slot (T := "range") ⟨_, ho, rfl⟩ F.slot_range_contains (call_meets F.slot_range_contains ⟨_, ho, rfl⟩ F.entry_range_contains (F.args_range_contains_2 _ _) (rg_has o p q st x k1 k2 k3 k4) ⟨ho, wpAny_truthy_bool h⟩)
  cases neg with
  | false =>
    show wpAny _ _ (do return Value.bool (← contains (Value.ref o) (Value.int x k4))) _ _ s
    exact wpAny_bind (go (wpAny_pure ⟨.bl _, H, J, rfl, h⟩))
  | true =>
    show wpAny _ _ (do return Value.bool (!(← contains (Value.ref o) (Value.int x k4)))) _ _ s
    exact wpAny_bind (go (wpAny_pure ⟨.bl _, H, J, rfl, h⟩))
theorem pc_inRg {X : Cx} {neg : Bool} {a b : Expr} {rest : List Expr} {ta : TE} {tA : TA} {p pos : Pos} (hg : Gl X "range") (hm : X.mg "range" = none) (pa : PE X a ta) (pA : PA X (b :: rest) tA)
    (he : starEach (b :: rest) X.env = (false, eval b X.env) :: starEach rest X.env) (hpl : (backTo pos (starEach rest X.env)).any (·.1) = false) : PC X (rgOp neg) a (.Call (.Name "range" p) (b :: rest) [] pos) (tInRg neg ta tA) := by
  refine ⟨fun pins s σ H Q I h => ?_⟩
  refine thn (pa.run pins s σ H _ I h) fun v s1 ⟨x, H1, I1, rx, q1⟩ => ?_
  refine Call_ (ld_blt I1 hg hm boot_range (PyProof.Rows.callWith_type1 (thn (pA.run pos pins s1 σ H1 _ I1 q1) fun us s2 ⟨vs, H2, I2, rs, q2⟩ => ?_) he hpl))
  obtain ⟨i, lo, hi, st, rfl, hv, q⟩ := q2
  obtain ⟨k, rfl⟩ := rx
  rcases hv with ⟨rfl, rfl, rfl⟩ | ⟨rfl, c0, c1⟩
  · cases rs with | cons r1 rr =>
    cases rr
    obtain ⟨t1, rfl⟩ := r1
    refine call_range_1 ?_
    exact cmp_rg (I2.kept fun b o e => Heap.get?_push_of_some _ e) (Heap.get?_push_size _ rfl) q
  · cases rs with | cons r1 rr =>
    cases rr with | cons r2 rr =>
    cases rr with | cons r3 rr =>
    cases rr
    obtain ⟨t1, rfl⟩ := r1
    obtain ⟨t2, rfl⟩ := r2
    obtain ⟨t3, rfl⟩ := r3
    refine call_range_3 (by omega) ?_ (.inl (PyProof.noPylong_small (by omega)))
    exact cmp_rg (I2.kept fun b o e => Heap.get?_push_of_some _ e) (Heap.get?_push_size _ rfl) q
def iRgIn (neg : Bool) (x : V) (vs : List V) (H : Hp) (Q : VK) : Prop := ∃ i a b c, x = .int i ∧ RgV vs a b c ∧ Q (.bl (inRgB neg a b c i)) H
instance {σ : L2.St} {H : Hp} {Q : VK} {neg : Bool} {ta : TE} {tA : TA} : Stp (tInRg neg ta tA σ H Q) (ta σ H fun x H1 => tA σ H1 fun vs H2 => iRgIn neg x vs H2 Q) := ⟨id⟩
theorem place_has (a b c i : Int) (hc : 0 < c) : (Builtin.Range.rangePlace? a b c i).isSome = decide (a ≤ i ∧ i < b ∧ (i - a) % c = 0) := by
  unfold Builtin.Range.rangePlace?
  rw [if_pos hc]
  by_cases h1 : a ≤ i <;> by_cases h2 : i < b <;> by_cases h3 : (i - a) % c = 0 <;> simp [h1, h2, h3]
theorem k_inRg1 {neg : Bool} {H : Hp} {Q : VK} {i n : Int} (h : Q (.bl (if neg then !decide (0 ≤ i ∧ i < n) else decide (0 ≤ i ∧ i < n))) H) : iRgIn neg (.int i) [.int n] H Q := ⟨i, 0, n, 1, rfl, .inl ⟨rfl, rfl, rfl⟩, by
  have e : decide (0 ≤ i ∧ i < n ∧ (i - 0) % 1 = 0) = decide (0 ≤ i ∧ i < n) := by rw [decide_eq_decide]; constructor <;> omega
  unfold inRgB
  rw [place_has 0 n 1 i (by decide), e]
  exact h⟩
theorem k_inRg3 {neg : Bool} {H : Hp} {Q : VK} {i a b c : Int} (hc : 0 < c) (hc2 : c < 1073741824) (h : Q (.bl (if neg then !decide (a ≤ i ∧ i < b ∧ (i - a) % c = 0) else decide (a ≤ i ∧ i < b ∧ (i - a) % c = 0))) H) : iRgIn neg (.int i) [.int a, .int b, .int c] H Q := ⟨i, a, b, c, rfl, .inr ⟨rfl, hc, hc2⟩, by
  unfold inRgB
  rw [place_has a b c i hc]
  exact h⟩
end Cm

namespace Cm
open PySem PySem.Spec PyProof.Rows L2
/-! ### sorted(xs), xs a list of data -/
def byD (z : V × PyData) : PyData := z.2
def srtD (xs : List V) (ds : List PyData) : List (V × PyData) := (xs.zip ds).mergeSort (PySem.W.dataLe false byD)
def rSortD (K : PySem.W.Frag) : List V → Hp → VK → Prop := fun vs H Q => ∃ (a : Addr) (xs : List V) (ds : List PyData), vs = [V.ref a] ∧ SqL K H a xs ∧ DpAll K H xs ds ∧ PySem.W.AllAlike ds ∧ PySem.W.Sortable ds ∧ (∀ d ∈ ds, d.depth ≤ 62) ∧
  ∀ p, H p = none → Q (.ref p) (upd H p (.lst ((srtD xs ds).map Prod.fst)))
section
variable {X : Cx} {pins : List (Addr × Obj)} {σ : L2.St} {H : Hp} {s : Shared}
theorem zip_snd : ∀ {xs : List V} {ds : List PyData}, DpAll X.K H xs ds → (xs.zip ds).map byD = ds
  | _, _, .nil => rfl
  | _, _, .cons _ t => by rw [List.zip_cons_cons, List.map_cons, zip_snd t]; rfl
theorem zip_is (I : Inv X pins σ H s) : ∀ {xs : List V} {ds : List PyData} {us : List Value}, DpAll X.K H xs ds → Vals xs us → PySem.W.EachIs (fun v (z : V × PyData) => RelV z.1 v) us (xs.zip ds) ∧ PySem.W.EachIs (fun v (z : V × PyData) => ∃ as, Reads s.heap v (byD z) as) us (xs.zip ds)
  | _, _, _, .nil, .nil => ⟨.nil, .nil⟩
  | _, _, _, .cons h t, .cons r rt => by
    obtain ⟨h1, h2⟩ := zip_is I t rt
    exact ⟨.cons r h1, .cons (Dp.reads I _ _ _ h r) h2⟩
theorem is_vals : ∀ {us : List Value} {zs : List (V × PyData)}, PySem.W.EachIs (fun v (z : V × PyData) => RelV z.1 v) us zs → Vals (zs.map Prod.fst) us
  | _, _, .nil => .nil
  | _, _, .cons r t => .cons r (is_vals t)
theorem cr_sortD (hu : X.A.units + 64 < cLine) : CallR X (.builtin "sorted") (rSortD X.K) := by
  intro pins s σ H vs us Q I r h
  obtain ⟨a, xs, ds, rfl, hs, hd, al, so, dep, q⟩ := h
  obtain ⟨its, rv, hl, hz⟩ := I.list hs
  rw [Vals.ref1 r]
  obtain ⟨e, er⟩ := zip_is I hd rv
  have zs := zip_snd hd
  have lz : (xs.zip ds).length = xs.length := by
    rw [List.length_zip, dpa_len hd, Nat.min_self]
  refine PySem.W.sorted_data hl.isList e er (by rw [zs]; exact al) (by rw [zs]; exact so) (by rw [lz]; exact hz) (fun z hz' => ?_) (fun out lo eo => ?_)
  · have : byD z ∈ ds := by rw [← zs]; exact List.mem_map_of_mem hz'
    have := dep _ this
    omega
  · obtain ⟨ep, at1⟩ := PyProof.Rows.sortedAll_at s.heap its out.toArray
    refine ⟨.ref _, upd H (s.heap.objs.size + 1) (.lst ((srtD xs ds).map Prod.fst)), I.laid (t' := s.toks) (fun _ _ => PyProof.Rows.sortedAll_old) (Nat.le_succ _) ⟨?_, out, ep, is_vals eo, at1⟩, rfl, q _ (I.hok.fresh (Nat.le_succ _))⟩
    rw [List.length_map, srtD, List.length_mergeSort, lz]
    exact hz
end
end Cm
namespace HT
open PySem PySem.Spec PyProof.Rows L2
/-! ### x in d.values() -/
theorem ent_ci : entryFor table "proto.contains_iter" = some Builtin.«proto.contains_iter» := entryFor_of_tree (by kernel_rfl)
theorem pl_ci : plainId "proto.contains_iter" = true := by decide +kernel
theorem lk_vals : typeLookup (.type "dict_values") "__contains__" = pure none := by rfl
section
variable {prog : Program} {w : World} {A : Around} {E : Value → Shared → Prop} {s : Shared}
theorem seek_all {I : Addr} {fp wr : List Addr} {n : Nat} {P : Nat → Value → Prop} {St : Nat → Heap → Prop} {R : Result → Shared → Prop} {val : Nat → Int} {x : Int} {tk : Tok}
    (W : Walks prog w A.in1 I fp wr n P St) (hin : ∀ i v, P i v → ∃ t, v = .int (val i) t) :
    ∀ (left i : Nat) (z : Shared), i + left = n → St i z.heap → (∀ b h' k, (b = true ↔ ∃ j, i ≤ j ∧ j < n ∧ val j = x) → (∀ c o, c ∉ wr → z.heap.get? c = some o → h'.get? c = some o) → R (.ok (.ret (.bool b))) { z with heap := h', toks := k }) →
      codeAny (model prog w) A (.builtin "proto.contains_iter" ⟨[.ref I, .int x tk], []⟩) R z := by
  intro left
  induction left with
  | zero =>
    intro i z e st fin
    obtain rfl : i = n := e
    refine codeAny_builtin ent_ci ?_
    rw [Around.under_plainId pl_ci _]
    refine wpAny_bind (W.done z _ _ st fun h' k kp => ?_)
    refine wpAny_bind (wpAny_rule (wpAny_pure ?_))
    exact fin false h' k ⟨(fun y => by cases y), fun ⟨j, h1, h2, _⟩ => by omega⟩ kp
  | succ left ih =>
    intro i z e st fin
    refine codeAny_builtin ent_ci ?_
    rw [Around.under_plainId pl_ci _]
    refine wpAny_bind (W.item i z _ _ (by omega) st fun v h' k pv st' kp => ?_)
    obtain ⟨t, rfl⟩ := hin i v pv
    refine wpAny_bind (wpAny_eqBool_int ?_)
    by_cases c : val i = x
    · rw [show (val i == x) = true by rw [c]; simp, if_pos rfl]
      refine wpAny_bind (wpAny_rule (wpAny_pure ?_))
      exact fin true h' k ⟨fun _ => ⟨i, Nat.le_refl _, by omega, c⟩, fun _ => rfl⟩ kp
    · rw [show (val i == x) = false by simpa using c, if_neg (by decide)]
      refine wpAny_pure ⟨plainId_quiet pl_ci _, ih (i + 1) { z with heap := h', toks := k } (by omega) st' fun b h2 k2 hb kp2 => ?_⟩
      refine fin b h2 k2 (hb.trans ⟨fun ⟨j, h1, h2, h3⟩ => ⟨j, by omega, h2, h3⟩, fun ⟨j, h1, h2, h3⟩ => ⟨j, ?_, h2, h3⟩⟩) fun c o hc y => kp2 c o hc (kp c o hc y)
      by_cases e : j = i
      · exact absurd (e ▸ h3) c
      · omega
theorem in_view {K : Type} [DecidableEq K] {knd : PySem.KeyKind prog w K} {v d : Addr} {kvs : List (K × Value)} {ep : Nat} {is : List Int} {x : Int} {tk : Tok} {Q : Bool → Shared → Prop} (hh : A.handled = none) (hv : s.heap.IsValuesView v d) (hm : s.heap.DictAt knd d kvs ep)
    (vals : ∀ (i : Nat) (u : Value), (∃ k, kvs[i]? = some (k, u)) → ∃ t, u = Value.int (is.getD i 0) t) (ln : kvs.length = is.length)
    (fin : ∀ b h' k, (b = true ↔ x ∈ is) → (∀ c o, s.heap.get? c = some o → h'.get? c = some o) → Q b { s with heap := h', toks := k }) : wpAny (model prog w) A (contains (.ref v) (.int x tk)) Q E s := by
  have ty : s.TypeIs (.ref v) "dict_values" := hv.typeIs
  unfold contains
  refine wpAny_holding ?_
  rw [stdlibNamesSay?_of_typeIs ty]
  refine wpAny_bind (wpAny_specialOf ty lk_vals ?_)
  rw [if_neg (by decide)]
  refine wpAny_bind (wpAny_callSpecialUnlessNone?_none ty lk_vals ?_)
  refine wpAny_bind (wpAny_rule ?_)
  refine wpAny_bind (wpAny_tryCatch (wpAny_pyIter_values hv hm ?_))
  have dlt : d < s.heap.objs.size := by
    obtain ⟨o, es, ho, _⟩ := hm
    exact Heap.lt_size ho
  have up : ∀ b u, s.heap.get? b = some u → (s.heap.push { cls := .type "dict_valueiterator", data := .fields #[.ref d, .int 0 0, .int kvs.length 0, .int ep 0] }).get? b = some u := fun b u e => Heap.get?_push_of_some _ e
  refine wpAny_bind (wpAny_runValue (seek_all (val := fun i => is.getD i 0) (Walks.dictValues (knd := knd) (A := A.in1) hh s.heap.objs.size d (Nat.ne_of_lt dlt) kvs ep) vals kvs.length 0 _ (by omega) ⟨⟨_, Heap.get?_push_size _ rfl, rfl, rfl⟩, hm.keep up⟩ (fun b h' k hb kp => ?_)))
  refine wpAny_pure (fin b h' k (hb.trans ?_) fun c o y => kp c o (fun hc => ?_) (up c o y))
  · rw [List.mem_iff_getElem]
    constructor
    · rintro ⟨j, _, h2, h3⟩
      have hj : j < is.length := by omega
      refine ⟨j, hj, ?_⟩
      rw [← h3, List.getD_eq_getElem?_getD, List.getElem?_eq_getElem hj]; rfl
    · rintro ⟨j, hj, e⟩
      refine ⟨j, Nat.zero_le _, by omega, ?_⟩
      show is.getD j 0 = x
      rw [← e, List.getD_eq_getElem?_getD, List.getElem?_eq_getElem hj]; rfl
  · have e1 : c = s.heap.objs.size := List.mem_singleton.mp hc
    exact Nat.lt_irrefl _ (e1 ▸ Heap.lt_size y)
end
end HT
namespace Cm
open PySem PySem.Spec PyProof.Rows L2
def iInV (neg : Bool) (x y : V) (H : Hp) (Q : VK) : Prop := ∃ (i : Int) (a : Addr) (kvs : List (Key × V)) (is : List Int), x = .int i ∧ y = .ref a ∧ H a = some (.dK kvs) ∧ kvs.map (·.2) = is.map V.int ∧ Q (.bl (if neg then !decide (i ∈ is) else decide (i ∈ is))) H
def tInV (neg : Bool) (ta td : TE) : TE := fun σ H Q => ta σ H fun x H1 => td σ H1 fun y H2 => iInV neg x y H2 Q
instance {σ : L2.St} {H : Hp} {Q : VK} {neg : Bool} {ta td : TE} : Stp (tInV neg ta td σ H Q) (ta σ H fun x H1 => td σ H1 fun y H2 => iInV neg x y H2 Q) := ⟨id⟩
theorem pc_inVals {X : Cx} {neg : Bool} {a o : Expr} {apos mpos : Pos} {ta td : TE} (hc : X.calm = true) (pa : PE X a ta) (hd : PE X o td) (hbase : attributeBase o "values" X.env (eval o X.env) = eval o X.env := by rfl) (hline : (apos.endLine == mpos.line) = true := by rfl) :
    PC X (rgOp neg) a (.Call (.Attribute o "values" apos) [] [] mpos) (tInV neg ta td) := by
  refine ⟨fun pins s σ H Q I h => ?_⟩
  refine thn (pa.run pins s σ H _ I h) fun w0 s0 ⟨x, H0, I0, r0, q0⟩ => ?_
  refine wpAny_Call_method0_late hbase hline (thn (hd.run pins s0 σ H0 _ I0 q0) ?_)
  rintro v s1 ⟨y, H1, I1, r1, i, d, kvs, is, rfl, rfl, ha, hv, q⟩
  obtain rfl : v = Value.ref d := r1
  obtain ⟨tk, rfl⟩ := r0
  obtain ⟨_, hsys, vs, rel, dof⟩ := dk_of I1.hok ha
  obtain ⟨ep, dat⟩ := dof.dictAt
  obtain ⟨ob, es, ho, ex, hdat, hko, hpr, hnd⟩ := id dat
  have lv : vs.length = is.length := by
    have e1 : kvs.length = is.length := by simpa using congrArg List.length hv
    rw [← e1]; exact (KV.length rel).symm
  have vals : ∀ (i : Nat) (v : Value), (∃ k, vs[i]? = some (k, v)) → ∃ t, v = Value.int (is.getD i 0) t := by
    rintro j v ⟨k, hk⟩
    obtain ⟨z, h1, h2⟩ := KV.at' rel hk
    have e1 : (is.map V.int)[j]? = some z := by rw [← hv, List.getElem?_map, h1] <;> rfl
    rw [List.getElem?_map] at e1
    obtain ⟨m, hm, rfl⟩ := Option.map_eq_some_iff.mp e1
    obtain ⟨t, e3⟩ := h2
    exact ⟨t, by rw [e3, List.getD_eq_getElem?_getD, hm] <;> rfl⟩
  refine ⟨"dict", "dict.values", F.plainAttrs_dict, F.slot_dict_values, F.type_dict_values, ⟨ob, ho, ex.1⟩, fun b e => by cases e; exact ⟨ob, ho, ex.2.1⟩, Calls.callWith_builtin rfl (PySem.evalArgs_none ?_)⟩
  refine call_meetsIn F.slot_dict_values ⟨ob, ho, ex.1⟩ F.entry_dict_values (F.args_dict_values_1 _) (meets_dict_values (mixKind X.prog X.w) d hsys) ⟨⟨vs, dof⟩, ?_⟩
  have up : ∀ b u, s1.heap.get? b = some u → (s1.heap.push { cls := .type "dict_values", data := .fields #[.ref d] }).get? b = some u := fun b u e => Heap.get?_push_of_some _ e
  have go : ∀ {R : Bool → Shared → Prop}, (∀ b h' k, (b = true ↔ i ∈ is) → (∀ c o, (s1.heap.push { cls := .type "dict_values", data := .fields #[.ref d] }).get? c = some o → h'.get? c = some o) → R b { s1 with heap := h', toks := k }) → wpAny (model X.prog X.w) X.A (contains (.ref s1.heap.objs.size) (.int i tk)) R X.xe { s1 with heap := s1.heap.push { cls := .type "dict_values", data := .fields #[.ref d] } } := fun fin =>
    HT.in_view (I.ok.hd hc) (v := s1.heap.objs.size) (d := d) ⟨_, Heap.get?_push_size _ rfl, rfl, rfl⟩ (dat.keep up) vals lv fin
  have keep : ∀ {h' : Heap} {k : Nat}, (∀ c o, (s1.heap.push { cls := .type "dict_values", data := .fields #[.ref d] }).get? c = some o → h'.get? c = some o) → Inv X pins σ H1 { s1 with heap := h', toks := k } := fun {h' k} kp => I1.kept (t' := k) fun b u e => kp b u (up b u e)
  cases neg with
  | false =>
    show wpAny _ _ (do return Value.bool (← contains (Value.ref s1.heap.objs.size) (Value.int i tk))) _ _ _
    refine wpAny_bind (go fun b h' k hb kp => wpAny_pure ⟨.bl b, H1, keep kp, rfl, ?_⟩)
    have e : b = decide (i ∈ is) := by rw [Bool.eq_iff_iff, hb, decide_eq_true_eq]
    rw [e]; exact q
  | true =>
    show wpAny _ _ (do return Value.bool (!(← contains (Value.ref s1.heap.objs.size) (Value.int i tk)))) _ _ _
    refine wpAny_bind (go fun b h' k hb kp => wpAny_pure ⟨.bl !b, H1, keep kp, rfl, ?_⟩)
    have e : b = decide (i ∈ is) := by rw [Bool.eq_iff_iff, hb, decide_eq_true_eq]
    rw [e]; exact q
theorem k_inV {neg : Bool} {H : Hp} {Q : VK} {i : Int} {a : Addr} {kvs : List (Key × V)} {is : List Int} (e : H a = some (.dK kvs)) (hv : kvs.map (·.2) = is.map V.int) (h : Q (.bl (if neg then !decide (i ∈ is) else decide (i ∈ is))) H) : iInV neg (.int i) (.ref a) H Q := ⟨i, a, kvs, is, rfl, rfl, e, hv, h⟩
theorem k_nInV {H : Hp} {Q : VK} {i : Int} {a : Addr} {kvs : List (Key × V)} {is : List Int} (e : H a = some (.dK kvs)) (hv : kvs.map (·.2) = is.map V.int) (h : Q (.bl (!decide (i ∈ is))) H) : iInV true (.int i) (.ref a) H Q := k_inV e hv h
end Cm
namespace HT
open PySem PySem.Spec PyProof.Rows L2
/-! ### sum(lists, start) -/
def lsO (vs : List Value) (e : Nat) : Obj := { cls := .type "list", data := .seq vs.toArray e }
/-- the first i rows behind a start -/
def rowsTo (start : List Value) (row : Nat → List Value) : Nat → List Value
  | 0 => start
  | i + 1 => rowsTo start row i ++ row i
theorem rowsTo_len {start : List Value} {row : Nat → List Value} : ∀ {i n : Nat}, i ≤ n → (rowsTo start row i).length ≤ (rowsTo start row n).length
  | i, 0, h => by
    obtain rfl : i = 0 := by omega
    exact Nat.le_refl _
  | i, n + 1, h => by
    by_cases c : i = n + 1
    · rw [c]; exact Nat.le_refl _
    · have := rowsTo_len (start := start) (row := row) (show i ≤ n by omega)
      rw [rowsTo, List.length_append]
      omega
theorem a2_sum (a b : Value) : argsOk "sum" ⟨[a, b], []⟩ := by unfold argsOk; kernel_rfl
section
variable {prog : Program} {w : World} {A : Around} {E : Value → Shared → Prop} {s : Shared}
theorem cat_all {I : Addr} {fp wr : List Addr} {n : Nat} {P : Nat → Value → Prop} {St : Nat → Heap → Prop} {R : Result → Shared → Prop} {cs : Nat → Addr} {start : List Value} {row : Nat → List Value} {S : Addr} {h0 : Heap}
    (W : Walks prog w A.in1 I fp wr n P St) (hin : ∀ i v, P i v → v = .ref (cs i)) (hS : S ∉ fp) (hw : ∀ i h, St i h → ∀ b ∈ wr, b < h.objs.size) (rows : ∀ i, i < n → cs i ∉ wr ∧ cs i ≠ S ∧ ∃ e, h0.get? (cs i) = some (lsO (row i) e)) (room : (rowsTo start row n).length ≤ sizeLine) :
    ∀ (left i : Nat) (z : Shared) (T : Addr) (c e : Nat), i + left = n → St i z.heap → (∀ b o, b ∉ wr → b ≠ S → h0.get? b = some o → z.heap.get? b = some o) → z.heap.get? S = some { cls := .type "list", dict := none, data := .seq #[.ref T] c, slots := #[] } → T ∉ wr → T ≠ S → z.heap.get? T = some (lsO (rowsTo start row i) e) →
      (∀ T' h' k e', (left = 0 → T' = T) → (0 < left → ∀ q ∈ wr, q < T') → (∀ b o, b ∉ wr → b ≠ S → z.heap.get? b = some o → h'.get? b = some o) → h'.get? T' = some (lsO (rowsTo start row n) e') → R (.ok (.ret (.ref T'))) { z with heap := h', toks := k }) →
      codeAny (model prog w) A (.builtin "sum.loop" ⟨[.ref I, .ref S, rawInt 2, rawInt 0], []⟩) R z := by
  have hSw : S ∉ wr := fun h => hS (W.sub _ h)
  intro left
  induction left with
  | zero =>
    intro i z T c e hi st kp0 hz Tw TS eT fin
    obtain rfl : i = n := hi
    refine codeAny_builtin F.entry_sum_loop ?_
    rw [Around.under_plainId F.plain_sum_loop _]
    show wpAny _ A.in1 (seqItems? (.ref S) >>= _) _ _ z
    refine wpAny_bind (wpAny_seqItems hz rfl ?_)
    show wpAny _ A.in1 (tryCatch (pyNext (.ref I)) _ >>= _) _ _ z
    refine wpAny_bind (wpAny_tryCatch (W.done z _ _ st fun h' k kp => ?_))
    exact wpAny_pure (fin T h' k e (fun _ => rfl) (fun y => by omega) (fun b o hb _ y => kp b o hb y) (kp T _ Tw eT))
  | succ left ih =>
    intro i z T c e hi st kp0 hz Tw TS eT fin
    obtain ⟨cw, cS, e1, ec⟩ := rows i (by omega)
    refine codeAny_builtin F.entry_sum_loop ?_
    rw [Around.under_plainId F.plain_sum_loop _]
    show wpAny _ A.in1 (seqItems? (.ref S) >>= _) _ _ z
    refine wpAny_bind (wpAny_seqItems hz rfl ?_)
    show wpAny _ A.in1 (tryCatch (pyNext (.ref I)) _ >>= _) _ _ z
    refine wpAny_bind (wpAny_tryCatch (W.item i z _ _ (by omega) st fun v h' k pv st' kp => ?_))
    obtain rfl := hin i v pv
    have eS := kp S _ hSw hz
    have eT' := kp T _ Tw eT
    have ecz := kp (cs i) _ cw (kp0 (cs i) _ cw cS ec)
    have big : (rowsTo start row i).length + (row i).length ≤ sizeLine := by
      have := rowsTo_len (start := start) (row := row) (show i + 1 ≤ n by omega)
      rw [rowsTo, List.length_append] at this
      omega
    show wpAny _ A.in1 ((holding [Value.ref (cs i)] (binaryOp .Add (.ref T) (.ref (cs i)))).attempt >>= _) _ _ _
    refine wpAny_bind (wpAny_attempt (wpAny_holding (PySem.P.add_list eT' ecz ?_ (by rw [List.size_toArray, List.size_toArray]; exact big))))
    have ep : (rowsTo start row i).toArray ++ (row i).toArray = (rowsTo start row (i + 1)).toArray := by simp [rowsTo]
    rw [ep]
    have nS : S ≠ h'.objs.size := Nat.ne_of_lt (Heap.lt_size eS)
    have up : ∀ b o, h'.get? b = some o → (h'.push (lsO (rowsTo start row (i + 1)) 0)).get? b = some o := fun b o y => Heap.get?_push_of_some _ y
    have ePS := up S _ eS
    show wpAny _ A.in1 (updateSeq S (fun _ => #[.ref h'.objs.size]) >>= _) _ _ _
    refine wpAny_bind (wpAny_updateSeq ePS rfl ?_)
    have eS2 := Heap.get?_update_self (Obj.mapSeq fun _ => #[Value.ref h'.objs.size]) ePS rfl
    refine wpAny_bind (wpAny_letGo ?_)
    have keep2 : ∀ b o, b ≠ S → h'.get? b = some o → (((h'.push (lsO (rowsTo start row (i + 1)) 0)).update S (Obj.mapSeq fun _ => #[Value.ref h'.objs.size])).update S (Obj.mapSeq fun _ => #[Value.ref h'.objs.size])).get? b = some o := fun b o hb y =>
      (Heap.get?_update_other _ _ (Ne.symm hb)).trans ((Heap.get?_update_other _ _ (Ne.symm hb)).trans (up b o y))
    have eT2 : (((h'.push (lsO (rowsTo start row (i + 1)) 0)).update S (Obj.mapSeq fun _ => #[Value.ref h'.objs.size])).update S (Obj.mapSeq fun _ => #[Value.ref h'.objs.size])).get? h'.objs.size = some (lsO (rowsTo start row (i + 1)) 0) :=
      (Heap.get?_update_other _ _ nS).trans ((Heap.get?_update_other _ _ nS).trans (Heap.get?_push_size _ rfl))
    have big2 : ∀ b, b < h'.objs.size → b < (((h'.push (lsO (rowsTo start row (i + 1)) 0)).update S (Obj.mapSeq fun _ => #[Value.ref h'.objs.size])).update S (Obj.mapSeq fun _ => #[Value.ref h'.objs.size])).objs.size := fun b hb => by
      rw [Heap.size_update, Heap.size_update, Heap.size_push]
      omega
    refine wpAny_bind (wpAny_updateSeq eS2 rfl (wpAny_pure ⟨plainId_quiet F.plain_sum_loop _, ih (i + 1) _ h'.objs.size _ 0 (by omega) (W.frame _ _ _ st' fun b hb o y => keep2 b o (fun c => hS (c ▸ hb)) y) (fun b o hb hb2 y => keep2 b o hb2 (kp b o hb (kp0 b o hb hb2 y))) (Heap.get?_update_self _ eS2 rfl) ?_ (Ne.symm nS) eT2 fun T' h2 k2 e' h3 h4 h5 h6 => ?_⟩))
    · exact fun y => Nat.lt_irrefl _ (hw _ _ st' _ y)
    · refine fin T' h2 k2 e' (fun y => by omega) (fun _ q hq => ?_) (fun b o hb hb2 y => h5 b o hb hb2 (keep2 b o hb2 (kp b o hb y))) h6
      by_cases c0 : left = 0
      · rw [h3 c0]
        exact hw _ _ st' q hq
      · exact h4 (by omega) q hq
theorem nl_str : isSubtype (.type "list") (.type "str") = pure false := by rw [isSubtype_type]; kernel_rfl
theorem nl_bytes : isSubtype (.type "list") (.type "bytes") = pure false := by rw [isSubtype_type]; kernel_rfl
theorem nl_barr : isSubtype (.type "list") (.type "bytearray") = pure false := by rw [isSubtype_type]; kernel_rfl
theorem call_sumL {l b : Addr} {items : Array Value} {cs : Nat → Addr} {start : List Value} {row : Nat → List Value} {Q : Value → Shared → Prop} (hh : A.handled = none) (hl : s.heap.IsList l items) (hb : ∃ e, s.heap.get? b = some (lsO start e)) (hin : ∀ (i : Nat) v, items[i]? = some v → v = .ref (cs i)) (rows : ∀ i, i < items.size → ∃ e, s.heap.get? (cs i) = some (lsO (row i) e)) (room : (rowsTo start row items.size).length ≤ sizeLine)
    (fin : ∀ T h' k e', (items.size = 0 → T = b) → (0 < items.size → s.heap.objs.size ≤ T) → (∀ c o, s.heap.get? c = some o → h'.get? c = some o) → h'.get? T = some (lsO (rowsTo start row items.size) e') → Q (.ref T) { s with heap := h', toks := k }) :
    wpAny (model prog w) A (call (.builtin "sum") [.ref l, .ref b]) Q E s := by
  obtain ⟨eb, hb⟩ := hb
  refine call_function_tree F.kind_sum F.plain_sum F.entry_sum (a2_sum _ _) ?_
  unfold Builtin.«sum»
  simp only [List.length_cons, List.length_nil]
  rw [if_neg (by decide)]
  refine wpAny_bind (wpAny_of_eq (show Builtin.Builtins.bindParams "sum" ["start"] 0 ⟨[.ref b], []⟩ = pure [some (.ref b)] from rfl) ?_)
  refine wpAny_bind (wpAny_pyIter_list hl ?_)
  have lt : ∀ {c o}, s.heap.get? c = some o → c < s.heap.objs.size := fun e => Heap.lt_size e
  have up : ∀ c o, s.heap.get? c = some o → (s.heap.push { cls := .type "list_iterator", data := .fields #[.ref l, .int 0 0] }).get? c = some o := fun c o y => Heap.get?_push_of_some _ y
  have ty : ({ s with heap := s.heap.push { cls := .type "list_iterator", data := .fields #[.ref l, .int 0 0] } } : Shared).TypeIs (.ref b) "list" := ⟨_, up b _ hb, rfl⟩
  refine wpAny_bind (wpAny_pure ?_)
  simp only [List.forIn_cons, List.forIn_nil]
  refine wpAny_bind (wpAny_bind (wpAny_bind (wpAny_isInstance (T := "list") (b := false) ty nl_str ?_)))
  simp only [Bool.false_eq_true, if_false]
  refine wpAny_pure (wpAny_bind (wpAny_bind (wpAny_isInstance (T := "list") (b := false) ty nl_bytes ?_)))
  simp only [Bool.false_eq_true, if_false]
  refine wpAny_pure (wpAny_bind (wpAny_bind (wpAny_isInstance (T := "list") (b := false) ty nl_barr ?_)))
  simp only [Bool.false_eq_true, if_false]
  refine wpAny_pure (wpAny_pure ?_)
  refine wpAny_bind (wpAny_newObj_type ?_)
  obtain ⟨ol, hol, _⟩ := id hl
  have ltl := lt hol
  have sz : (s.heap.push { cls := .type "list_iterator", data := .fields #[.ref l, .int 0 0] }).objs.size = s.heap.objs.size + 1 := Heap.size_push _ _
  refine wpAny_pure ⟨plainId_quiet F.plain_sum_loop _, ?_⟩
  have up2 : ∀ c o, s.heap.get? c = some o → ((s.heap.push { cls := .type "list_iterator", data := .fields #[.ref l, .int 0 0] }).push { cls := .type "list", data := .seq #[.ref b] }).get? c = some o := fun c o y => Heap.get?_push_of_some _ (up c o y)
  have ne0 : ∀ {c : Addr}, c < s.heap.objs.size → c ∉ [s.heap.objs.size] := fun h hc => Nat.ne_of_lt h (List.mem_singleton.mp hc)
  have ne1 : ∀ {c : Addr}, c < s.heap.objs.size → c ≠ s.heap.objs.size + 1 := fun h => Nat.ne_of_lt (Nat.lt_succ_of_lt h)
  refine cat_all (h0 := s.heap) (start := start) (row := row) (Walks.list (prog := prog) (w := w) (A := A.in1) hh s.heap.objs.size l (Nat.ne_of_lt ltl) items) hin ?_ ?_ (fun i hi => ?_) room items.size 0 _ b 0 eb (by omega) ⟨⟨_, Heap.get?_push_of_some _ (Heap.get?_push_size _ rfl), rfl, rfl⟩, (hl.push _).push _⟩ (fun c o _ _ y => up2 c o y) (Heap.get?_push_size _ rfl) ?_ ?_ (up2 b _ hb) (fun T h' k e' h3 h4 h5 h6 => ?_)
  · simp only [List.mem_cons, List.not_mem_nil, or_false, not_or]
    constructor
    · show (s.heap.push _).objs.size ≠ _
      rw [sz]
      exact Nat.succ_ne_self _
    · show (s.heap.push _).objs.size ≠ _
      rw [sz]
      exact (ne1 ltl).symm
  · intro i h st c hc
    rw [show c = s.heap.objs.size from List.mem_singleton.mp hc]
    obtain ⟨⟨o, ho, _⟩, _⟩ := st
    exact Heap.lt_size ho
  · obtain ⟨e, he⟩ := rows i hi
    refine ⟨ne0 (lt he), ?_, e, he⟩
    show cs i ≠ (s.heap.push _).objs.size
    rw [sz]
    exact ne1 (lt he)
  · exact ne0 (lt hb)
  · show b ≠ (s.heap.push _).objs.size
    rw [sz]
    exact ne1 (lt hb)
  · refine fin T h' k e' h3 (fun hp => Nat.le_of_lt (h4 hp _ (List.mem_singleton.mpr rfl))) (fun c o y => ?_) h6
    · refine h5 c o (ne0 (lt y)) ?_ (up2 c o y)
      show c ≠ (s.heap.push _).objs.size
      rw [sz]
      exact ne1 (lt y)
end
end HT
namespace Cm
open PySem PySem.Spec PyProof.Rows L2
def rSumL (K : PySem.W.Frag) : List V → Hp → VK → Prop := fun vs H Q => ∃ (a b : Addr) (cs : List Addr) (rows : List (List V)) (st : List V), vs = [V.ref a, V.ref b] ∧ SqL K H a (cs.map V.ref) ∧ H b = some (.lst st) ∧ cs.length = rows.length ∧ (∀ (i : Nat) c r, cs[i]? = some c → rows[i]? = some r → H c = some (.lst r)) ∧ (st ++ rows.flatten).length ≤ 100000 ∧
  (rows = [] → Q (.ref b) H) ∧ (rows ≠ [] → ∀ p, H p = none → Q (.ref p) (upd H p (.lst (st ++ rows.flatten))))
theorem vals_at {xs : List V} {us : List Value} (h : Vals xs us) : ∀ {i : Nat} {u : Value}, us[i]? = some u → ∃ x, xs[i]? = some x ∧ RelV x u := by
  induction h with
  | nil => intro i u e; simp at e
  | cons r t ih =>
    intro i u e
    cases i with
    | zero =>
      simp only [List.getElem?_cons_zero, Option.some.injEq] at e
      subst e
      exact ⟨_, rfl, r⟩
    | succ i => exact ih (by simpa using e)
theorem rows_vals {st : List V} {rows : List (List V)} {start : List Value} {row : Nat → List Value} (h0 : Vals st start) (hr : ∀ i, i < rows.length → Vals (rows.getD i []) (row i)) : ∀ i, i ≤ rows.length → Vals (st ++ (rows.take i).flatten) (HT.rowsTo start row i)
  | 0, _ => by
    show Vals (st ++ (rows.take 0).flatten) start
    simpa using h0
  | i + 1, h => by
    have ih := rows_vals h0 hr i (by omega)
    have e : rows.take (i + 1) = rows.take i ++ [rows.getD i []] := by
      rw [List.take_add_one, List.getD_eq_getElem?_getD, List.getElem?_eq_getElem (show i < rows.length by omega)]; rfl
    rw [e, List.flatten_append, ← List.append_assoc]
    show Vals _ (HT.rowsTo start row i ++ row i)
    simpa using ih.append (hr i (by omega))
open Classical in
theorem cr_sumL {X : Cx} (hc : X.calm = true) : CallR X (.builtin "sum") (rSumL X.K) := by
  intro pins s σ H vs us Q I r h
  obtain ⟨a, b, cs, rows, st, rfl, hs, hb, hl, hrow, hz, q0, q1⟩ := h
  obtain ⟨its, rv, isl, _⟩ := I.list hs
  obtain ⟨z1, start, e1, r1, l1, g1⟩ := I.lstM hb
  obtain ⟨u1, u2, rfl, ra, rb⟩ := vals2 r
  obtain rfl : u1 = Value.ref a := ra
  obtain rfl : u2 = Value.ref b := rb
  have ln : its.toArray.size = rows.length := by rw [List.size_toArray, ← rv.length, List.length_map, hl]
  have each : ∀ i, i < rows.length → ∃ vsi e, Vals (rows.getD i []) vsi ∧ s.heap.get? (cs.getD i 0) = some (HT.lsO vsi e) := fun i hi => by
    have hc' : cs[i]? = some (cs.getD i 0) := by rw [List.getD_eq_getElem?_getD, List.getElem?_eq_getElem (by omega)]; rfl
    have hr' : rows[i]? = some (rows.getD i []) := by rw [List.getD_eq_getElem?_getD, List.getElem?_eq_getElem hi]; rfl
    obtain ⟨_, its', n', r', _, g'⟩ := I.lstM (hrow i _ _ hc' hr')
    exact ⟨its', n', r', g'⟩
  let row : Nat → List Value := fun i => if h : i < rows.length then (each i h).choose else []
  have hrv : ∀ i, (h : i < rows.length) → Vals (rows.getD i []) (row i) ∧ ∃ e, s.heap.get? (cs.getD i 0) = some (HT.lsO (row i) e) := fun i h => by
    have := (each i h).choose_spec
    have er : row i = (each i h).choose := dif_pos h
    rw [er]
    obtain ⟨e, p1, p2⟩ := this
    exact ⟨p1, e, p2⟩
  have rvs := rows_vals r1 (fun i h => (hrv i h).1)
  have full := rvs rows.length (Nat.le_refl _)
  rw [List.take_length] at full
  have line : (st ++ rows.flatten).length ≤ sizeLine := sz hz
  refine HT.call_sumL (I.ok.hd hc) (cs := fun i => cs.getD i 0) (start := start) (row := row) isl.isList ⟨e1, g1⟩ (fun i v hv => ?_) (fun i hi => (hrv i (by omega)).2) (by rw [ln, ← full.length]; exact line) (fun T h' k e' t0 t1 kp eT => ?_)
  · obtain ⟨x, hx, rx⟩ := vals_at rv (by simpa using hv)
    rw [List.getElem?_map] at hx
    obtain ⟨c, hc', rfl⟩ := Option.map_eq_some_iff.mp hx
    rw [List.getD_eq_getElem?_getD, hc']
    exact rx
  · rw [ln] at eT t0 t1
    by_cases c : rows = []
    · rw [t0 (by rw [c]; rfl)]
      exact ⟨.ref b, H, I.kept kp, rfl, q0 c⟩
    · have lp : 0 < rows.length := List.length_pos_iff.mpr c
      have ge : s.heap.objs.size ≤ T := t1 lp
      exact ⟨.ref T, upd H T (.lst (st ++ rows.flatten)), I.laid kp ge ⟨line, _, e', full, eT⟩, rfl, q1 c T (I.hok.fresh ge)⟩
end Cm
namespace Cm
open PySem PySem.Spec PyProof.Rows L2
theorem k_sumL {K : PySem.W.Frag} {H : Hp} {Q : VK} {a b : Addr} {cs : List Addr} {rows : List (List V)} {st : List V} (hs : SqL K H a (cs.map V.ref)) (hb : H b = some (.lst st)) (hl : cs.length = rows.length) (hr : ∀ (i : Nat) c r, cs[i]? = some c → rows[i]? = some r → H c = some (.lst r)) (hz : (st ++ rows.flatten).length ≤ 100000)
    (h : ∀ p H', (p = b ∨ H p = none) → Same H H' → H' p = some (.lst (st ++ rows.flatten)) → Q (.ref p) H') : rSumL K [.ref a, .ref b] H Q :=
  ⟨a, b, cs, rows, st, rfl, hs, hb, hl, hr, hz, fun e => h b H (.inl rfl) (Same.refl _) (by rw [e]; simpa using hb), fun _ p np => h p _ (.inr np) (same_new np) upd_same⟩
end Cm
namespace Cm
open PySem PySem.Spec PyProof.Rows L2
/-! ### an own exception made as a value -/
theorem pe_of_mk {X : Cx} {e : Expr} {t : L2.St → Hp → XK → Prop} (he : PMk X e t) : PE X e (fun σ H Q => t σ H fun cls d H' => ∀ a, H' a = none → Q (.ref a) (upd H' a (ExV cls d a))) :=
  ⟨fun pins s σ H Q I h => wpAny_mono (he pins s σ H _ I h) (fun u s1 hu => by
    obtain ⟨a, oe, vs, sI, H', cls, d, rfl, J, k, hne, ha, hz, hd, h1, na, os, ag, r, q⟩ := hu
    exact ⟨.ref a, upd H' a (ExV cls d a), J.call' (ch := []) os (Un.laidN k hne na) (J.hok.laidN k na (exV_ok ha hz hd)) ag (fun b z => absurd z (by simp)), rfl, q a na⟩) fun _ _ x => x⟩
/-- C(e), C with an __init__ that keeps sp, as a value -/
def tMkV (C : Addr) (sp : Sp) (ta : TA) : TE := fun σ H Q => tMkO C sp [] ta σ H fun cls d H' => ∀ a, H' a = none → Q (.ref a) (upd H' a (ExV cls d a))
theorem k_mkV {C : Addr} {f : Str} {ta : TA} {v : V} {σ : L2.St} {H : Hp} {Q : VK} (hta : ∀ (R : List V → Hp → Prop), R [v] H → ta σ H R) (h : ∀ d a, H d = none → (upd H d (.xd [(f, v)])) a = none → Q (.ref a) (upd (upd H d (.xd [(f, v)])) a (ExV (.ref C) (some d) a))) : tMkV C (spInit C f) ta σ H Q :=
  k_raiseO (E := fun cls d H' => ∀ a, H' a = none → Q (.ref a) (upd H' a (ExV cls d a))) (D := ⟨fun _ _ => False, fun _ _ => False, fun _ _ => False, fun _ _ => False⟩) hta fun d nd a na => h d a nd na
end Cm
namespace Cm
open PySem PySem.Spec PyProof.Rows L2
/-! ### xs[::2] of a list -/
def evV {α : Type} : List α → List α
  | [] => []
  | [a] => [a]
  | a :: _ :: r => a :: evV r
theorem evV_len {α : Type} : ∀ l : List α, (evV l).length = (l.length + 1) / 2
  | [] => by show 0 = (0 + 1) / 2; rfl
  | [_] => by show 1 = (0 + 1 + 1) / 2; rfl
  | _ :: _ :: r => by show (evV r).length + 1 = (r.length + 1 + 1 + 1) / 2; rw [evV_len r]; omega
theorem evV_get {α : Type} : ∀ (l : List α) (i : Nat), (evV l)[i]? = l[2 * i]?
  | [], i => by simp [evV]
  | [a], 0 => rfl
  | [a], i + 1 => by simp [evV, show 2 * (i + 1) = 2 * i + 1 + 1 by omega]
  | a :: b :: r, 0 => rfl
  | a :: b :: r, i + 1 => by
    show (evV r)[i]? = (a :: b :: r)[2 * (i + 1)]?
    rw [evV_get r i, show 2 * (i + 1) = 2 * i + 1 + 1 by omega, List.getElem?_cons_succ, List.getElem?_cons_succ]
theorem evV_map {α β : Type} (f : α → β) : ∀ l : List α, (evV l).map f = evV (l.map f)
  | [] => rfl
  | [_] => rfl
  | a :: b :: r => by show f a :: (evV r).map f = f a :: evV (r.map f); rw [evV_map f r]
theorem evV_vals : ∀ {xs : List V} {us : List Value}, Vals xs us → Vals (evV xs) (evV us)
  | _, _, .nil => .nil
  | _, _, .cons h .nil => .cons h .nil
  | _, _, .cons h (.cons _ t) => .cons h (evV_vals t)
theorem evV_fm {α : Type} (l : List α) : ∀ k, k ≤ (evV l).length → (List.range k).filterMap (fun m => l[2 * m]?) = (evV l).take k
  | 0, _ => by simp
  | k + 1, h => by
    have ih := evV_fm l k (by omega)
    rw [List.range_succ, List.filterMap_append, ih, List.take_add_one, evV_get]
    have : 2 * k < l.length := by rw [evV_len] at h; omega
    rw [List.getElem?_eq_getElem this]
    simp [List.getElem?_eq_getElem this]
theorem pick_ev (items : Array Value) : slicePick items none none (some 2) = (evV items.toList).toArray := by
  unfold slicePick
  have e : sliceBounds none none (some 2) items.size = ((0 : Int), (items.size : Int), 2) := by
    simp [sliceBounds]
  rw [e]
  show ((sliceRange (0 : Int) (items.size : Int) 2).filterMap (items[·]?)).toArray = _
  congr 1
  unfold sliceRange
  have hc : (if (2 : Int) > 0 then (if (0 : Int) < (items.size : Int) then ((items.size : Int) - 0 + 2 - 1) / 2 else 0) else (if (0 : Int) > (items.size : Int) then ((0 : Int) - (items.size : Int) - 2 - 1) / (-2) else 0)).toNat = (evV items.toList).length := by
    rw [evV_len, Array.length_toList, if_pos (by decide)]
    split <;> omega
  show List.filterMap (fun x => items[x]?) (List.map (fun (k : Nat) => ((0 : Int) + 2 * (k : Int)).toNat) (List.range (if (2 : Int) > 0 then (if (0 : Int) < (items.size : Int) then ((items.size : Int) - 0 + 2 - 1) / 2 else 0) else (if (0 : Int) > (items.size : Int) then ((0 : Int) - (items.size : Int) - 2 - 1) / (-2) else 0)).toNat)) = _
  rw [hc, List.filterMap_map]
  have hf : ((fun x => items[x]?) ∘ fun (k : Nat) => ((0 : Int) + 2 * (k : Int)).toNat) = fun m : Nat => items.toList[2 * m]? := by
    funext m
    show items[((0 : Int) + 2 * (m : Int)).toNat]? = _
    rw [show ((0 : Int) + 2 * (m : Int)).toNat = 2 * m by omega, Array.getElem?_toList]
  rw [hf, evV_fm _ _ (Nat.le_refl _), List.take_length]
def rEvL (K : PySem.W.Frag) (x : V) (H : Hp) (Q : VK) : Prop := ∃ a xs, x = .ref a ∧ SqL K H a xs ∧ ∀ p, H p = none → Q (.ref p) (upd H p (.lst (evV xs)))
def tEvL (K : PySem.W.Frag) (te : TE) : TE := fun σ H Q => te σ H fun x H1 => rEvL K x H1 Q
section
variable {X : Cx}
theorem pe_evL {e : Expr} {te : TE} {k : Nat} {p1 p3 pos : Pos} (he : PE X e te) : PE X (.Subscript e (.Slice none none (some (.Constant (.int 2) k p1)) p3) pos) (tEvL X.K te) := by
  refine ⟨fun pins s σ H Q I h => ?_⟩
  refine Subscript_ (thn (he.run pins s σ H _ I h) fun v s1 ⟨x, H1, I1, r1, q1⟩ => ?_)
  obtain ⟨a, xs, ex, hx, q⟩ := q1
  subst ex
  cases r1
  have hst : PO X (some (.Constant (.int 2) k p1)) (tPart (tC (.int 2))) := po_some pe_int
  refine wpAny_Slice (thn (po_none.run pins s1 σ H1 (fun o H2 => o = none ∧ H2 = H1) I1 ⟨rfl, rfl⟩) fun vl s2 ⟨l, H2, I2, pl, el, e2⟩ => ?_)
  subst el e2
  refine thn (po_none.run pins s2 σ H2 (fun o H3 => o = none ∧ H3 = H2) I2 ⟨rfl, rfl⟩) fun vu s3 ⟨u, H3, I3, pu, eu, e3⟩ => ?_
  subst eu e3
  refine thn (hst.run pins s3 σ H3 (fun o H4 => o = some 2 ∧ H4 = H3) I3 ⟨2, rfl, rfl, rfl⟩) fun vs s4 ⟨o, H4, I4, ps, eo, e4⟩ => ?_
  subst eo e4
  have I5 : Inv X pins σ H4 { s4 with heap := s4.heap.push { cls := .type "slice", data := .fields #[vl, vu, vs] } } := I4.kept (t' := s4.toks) fun b ob q => Heap.get?_push_of_some _ q
  obtain ⟨its, r, ht, hz⟩ := I5.list hx
  have hlen := r.length
  show wpAny (model X.prog X.w) X.A (subscriptTail e (.Slice none none (some (.Constant (.int 2) k p1)) p3) (.ref a) (.ref s4.heap.objs.size)) (EP X pins σ Q) X.xe { s4 with heap := s4.heap.push { cls := .type "slice", data := .fields #[vl, vu, vs] } }
  refine tail_any (ops := [.ref a, .ref s4.heap.objs.size]) ht.isList.typeIs (PySem.slot_list_getitem.lookup) ?_ (by with_unfolding_all rfl)
  refine wpAny_getItem_list_slice ht.isList (Heap.IsSliceOf.new _ vl vu vs) pl pu ps (by decide) ?_ (by rw [List.size_toArray]; omega)
  rw [pick_ev]
  refine ⟨.ref _, _, I5.laid (t' := s4.toks) (o := .lst (evV xs)) (fun b ob q => Heap.get?_push_of_some _ q) (Nat.le_refl _) ?_, rfl, q _ (I5.hok.fresh (Nat.le_refl _))⟩
  exact ⟨by rw [evV_len]; omega, _, 0, evV_vals r, Heap.get?_push_size _ rfl⟩
end
instance {K : PySem.W.Frag} {σ : L2.St} {H : Hp} {Q : VK} {te : TE} : Stp (tEvL K te σ H Q) (te σ H fun x H1 => rEvL K x H1 Q) := ⟨id⟩
theorem k_evL {K : PySem.W.Frag} {H : Hp} {Q : VK} {a : Addr} {xs : List V} (hs : SqL K H a xs) (h : ∀ p H', H p = none → Same H H' → H' p = some (.lst (evV xs)) → Q (.ref p) H') : rEvL K (.ref a) H Q := ⟨a, xs, rfl, hs, fun p np => h p _ np (same_new np) upd_same⟩
end Cm

namespace Pf
open PySem PySem.Spec PyProof.Rows L2 Cm
local macro_rules | `(tactic| wtm_at "smh") => `(tactic| with_reducible first
  | assumption
  | (refine Same.trans ?_ (by assumption); wtm_at "smx")
  | (refine Same.trans ?_ (hid_mono (by assumption)); wtm_at "smx"))
local macro_rules | `(tactic| wtm_at "smx") => `(tactic| with_reducible first
  | exact Same.refl _
  | assumption
  | exact hid_same _ _
  | (refine Same.trans ?_ (by assumption); wtm_at "smx")
  | (refine Same.trans ?_ (hid_mono (by assumption)); wtm_at "smx")
  | (apply hid_back; wtm_at "smh"))
local macro_rules | `(tactic| wtm_at "sm") => `(tactic| wtm_at "smx")
local macro_rules | `(tactic| wtm_at "at") => `(tactic| with_reducible first
  | assumption
  | exact upd_same
  | (refine at_same (by assumption) ?_; wtm_at "smx"))
local macro_rules | `(tactic| wtm_at "le") => `(tactic| with_reducible first
  | assumption
  | (refine Le.same (by assumption) ?_; wtm_at "smx"))
local macro_rules | `(tactic| wtm_at "dp") => `(tactic| with_reducible first
  | assumption
  | exact .int _
  | exact .str _
  | exact .bl _
  | (refine dp_same ?_ (by assumption); wtm_at "smx")
  | (refine dpa_same ?_ (by assumption); wtm_at "smx")
  | (refine dpI_at (by assumption) ?_; wtm_at "smx")
  | (refine dpP_at (by assumption) ?_; wtm_at "smx"))
local macro_rules | `(tactic| wtm_at "sq") => `(tactic| with_reducible first
  | assumption
  | exact sl (by assumption)
  | exact stp (by assumption)
  | (refine sl_at (by assumption) ?_; wtm_at "smx")
  | (refine st_at (by assumption) ?_; wtm_at "smx")
  | (refine Same.seq ?_ (by assumption); wtm_at "smx")
  | (refine same_seqT ?_ (by assumption); wtm_at "smx")
  | ((show SqL _ (upd _ _ _) _ _); exact sl upd_same)
  | ((show SqT _ (upd _ _ _) _ _); exact stp upd_same))
local macro_rules | `(tactic| wtm_at "cI") => `(tactic| first
  | (refine Or.inl ⟨?_, ?_⟩ <;> omega)
  | (refine Or.inr ⟨?_, ?_⟩ <;> omega)
  | (refine ⟨?_, ?_⟩ <;> omega)
  | decide)
local macro_rules | `(tactic| wtm_at "pf") => `(tactic| first | omega | decide)
local macro_rules | `(tactic| wtm_at "s2") => `(tactic| with_reducible first
  | ((show ite _ _ _); first
    | refine k_itDT (by with_unfolding_all wtm_at "pf") ?_
    | refine k_itDF (by with_unfolding_all wtm_at "pf") ?_
    | refine k_itNT (by with_unfolding_all wtm_at "pf") ?_
    | refine k_itNF (by with_unfolding_all wtm_at "pf") ?_)
  | ((show rLenX _ _ _ _); first
    | refine k_len0 (by assumption) ?_
    | refine k_lenI (by wtm_at "sq") ?_
    | refine k_len (by wtm_at "sq") ?_)
  | ((show gTup _ _ _ _ _ _ _); refine k_gtup (by wtm_at "sq") (by with_unfolding_all rfl) ?_)
  | ((show rIxT _ (V.ref _) (V.int _) _ _); refine k_ixT (by wtm_at "sq") (by with_unfolding_all rfl) ?_)
  | ((show wipe _ _ = wipe _ _ ∧ _); refine k_wipe (by with_unfolding_all rfl) ?_)
  | ((show rIn _ _ _ _ _ _); first
    | refine k_inI (by wtm_at "sq") ?_
    | refine k_notInI (by wtm_at "sq") ?_)
  | ((show rIsi _ _ _ _); refine k_isiL (by wtm_at "sq") ?_)
  | ((show xMod _ _ _ _); refine k_mod (by with_unfolding_all first | decide | omega) ?_)
  | ((show xMul _ _ _ _); refine k_mul (by with_unfolding_all wtm_at "cI") ?_)
  | ((show xDiv _ _ _ _); refine k_div (by with_unfolding_all wtm_at "cI") ?_)
  | ((show xPow _ _ _ _); refine k_pow (by with_unfolding_all exact ⟨by decide, by decide, by decide⟩) ?_)
  | ((show rMinT _ _ _ _); refine k_minT (by wtm_at "sq") ?_)
  | ((show rMaxT _ _ _ _); refine k_maxT (by wtm_at "sq") ?_)
  | ((show ∃ j' : Int, [V.int _] = [.int j'] ∧ _); refine k_rj1 (by with_unfolding_all omega) (by with_unfolding_all omega) ?_)
  | ((show ∃ i' j' : Int, [V.int _, V.int _] = [.int i', .int j'] ∧ _); refine k_rj2 (by with_unfolding_all omega) ?_))
local macro_rules | `(tactic| wtm_at "s1") => `(tactic| first
  | refine go ?_
  | wtm_at "s2")
local macro_rules | `(tactic| wtm_at "s") => `(tactic| repeat wtm_at "s1")
def topS (i : Nat) : Stmt := PySem.Challenge.pw_tiehues_k62_whole_least_loads_by_pairs.main.body.getD i (.Pass ⟨0, 0, 0, 0⟩)
abbrev s_is_tree : Stmt := topS 10
theorem sc_is_tree : FnScope ["parents", "k"] ["parents"] (defScope s_is_tree) := ⟨rfl, rfl, rfl, by decide +kernel, rfl, by decide +kernel, by decide +kernel⟩
abbrev s_look_net : Stmt := topS 11
theorem sc_look_net : FnScope ["net", "kind", "size", "right"] ["net"] (defScope s_look_net) := ⟨rfl, rfl, rfl, by decide +kernel, rfl, by decide +kernel, by decide +kernel⟩
abbrev s_must_be_kind : Stmt := topS 12
theorem sc_must_be_kind : FnScope ["net", "kind"] ["net", "kind"] (defScope s_must_be_kind) := ⟨rfl, rfl, rfl, by decide +kernel, rfl, by decide +kernel, by decide +kernel⟩
abbrev s_places_of : Stmt := topS 13
theorem sc_places_of : FnScope ["net"] ["net"] (defScope s_places_of) := ⟨rfl, rfl, rfl, by decide +kernel, rfl, by decide +kernel, by decide +kernel⟩
abbrev s_ties_many : Stmt := topS 14
theorem sc_ties_many : FnScope ["net"] ["net"] (defScope s_ties_many) := ⟨rfl, rfl, rfl, by decide +kernel, rfl, by decide +kernel, by decide +kernel⟩
abbrev s_is_way : Stmt := topS 15
theorem sc_is_way : FnScope ["net", "way", "a", "b"] ["net", "way"] (defScope s_is_way) := ⟨rfl, rfl, rfl, by decide +kernel, rfl, by decide +kernel, by decide +kernel⟩
abbrev s_ties_on : Stmt := topS 16
theorem sc_ties_on : FnScope ["net", "way", "a", "b", "found"] ["net", "way"] (defScope s_ties_on) := ⟨rfl, rfl, rfl, by decide +kernel, rfl, by decide +kernel, by decide +kernel⟩
abbrev s_must_be_ways : Stmt := topS 17
theorem sc_must_be_ways : FnScope ["net", "ways", "k"] ["net", "ways"] (defScope s_must_be_ways) := ⟨rfl, rfl, rfl, by decide +kernel, rfl, by decide +kernel, by decide +kernel⟩
abbrev s_look_ways : Stmt := topS 18
theorem sc_look_ways : FnScope ["net", "ways"] ["net", "ways"] (defScope s_look_ways) := ⟨rfl, rfl, rfl, by decide +kernel, rfl, by decide +kernel, by decide +kernel⟩
abbrev s_look_ring : Stmt := topS 19
theorem sc_look_ring : FnScope ["net"] ["net"] (defScope s_look_ring) := ⟨rfl, rfl, rfl, by decide +kernel, rfl, by decide +kernel, by decide +kernel⟩
abbrev s_counted : Stmt := topS 20
theorem sc_counted : FnScope ["net", "ways", "found", "way", "tie"] ["net", "ways"] (defScope s_counted) := ⟨rfl, rfl, rfl, by decide +kernel, rfl, by decide +kernel, by decide +kernel⟩
abbrev s_loads : Stmt := topS 21
theorem sc_loads : FnScope ["net", "ways"] ["net", "ways"] (defScope s_loads) := ⟨rfl, rfl, rfl, by decide +kernel, rfl, by decide +kernel, by decide +kernel⟩
abbrev s_load : Stmt := topS 22
theorem sc_load : FnScope ["net", "ways"] ["net", "ways"] (defScope s_load) := ⟨rfl, rfl, rfl, by decide +kernel, rfl, by decide +kernel, by decide +kernel⟩
abbrev s_is_whole : Stmt := topS 24
theorem sc_is_whole : FnScope ["thing"] ["thing"] (defScope s_is_whole) := ⟨rfl, rfl, rfl, by decide +kernel, rfl, by decide +kernel, by decide +kernel⟩
abbrev s_look_few : Stmt := topS 25
theorem sc_look_few : FnScope ["net", "ways", "most"] ["net", "ways", "most"] (defScope s_look_few) := ⟨rfl, rfl, rfl, by decide +kernel, rfl, by decide +kernel, by decide +kernel⟩
abbrev s_lying : Stmt := topS 28
theorem sc_lying : FnScope ["net", "ways", "way"] ["net", "ways"] (defScope s_lying) := ⟨rfl, rfl, rfl, by decide +kernel, rfl, by decide +kernel, by decide +kernel⟩
abbrev s_sum_at : Stmt := topS 29
theorem sc_sum_at : FnScope ["both", "settled", "e", "f", "found", "k", "ties"] ["both", "settled", "e", "f"] (defScope s_sum_at) := ⟨rfl, rfl, rfl, by decide +kernel, rfl, by decide +kernel, by decide +kernel⟩
abbrev s_settle : Stmt := topS 30
theorem sc_settle : FnScope ["settled", "k", "turn", "more"] ["settled", "k", "turn"] (defScope s_settle) := ⟨rfl, rfl, rfl, by decide +kernel, rfl, by decide +kernel, by decide +kernel⟩
abbrev s_unlike_ties : Stmt := topS 31
theorem sc_unlike_ties : FnScope ["net", "both", "known", "found", "tie", "mark", "ties"] ["net", "both"] (defScope s_unlike_ties) := ⟨rfl, rfl, rfl, by decide +kernel, rfl, by decide +kernel, by decide +kernel⟩
abbrev s_heavy_pair : Stmt := topS 32
theorem sc_heavy_pair : FnScope ["both", "settled", "ties", "m", "e", "f"] ["both", "settled", "ties", "m"] (defScope s_heavy_pair) := ⟨rfl, rfl, rfl, by decide +kernel, rfl, by decide +kernel, by decide +kernel⟩
abbrev s_turned_or_paper : Stmt := topS 33
theorem sc_turned_or_paper : FnScope ["both", "settled", "ties", "m", "pair", "k", "one", "other", "way"] ["both", "settled", "ties", "m"] (defScope s_turned_or_paper) := ⟨rfl, rfl, rfl, by decide +kernel, rfl, by decide +kernel, by decide +kernel⟩
abbrev s_least_load : Stmt := topS 34
theorem sc_least_load : FnScope ["net", "ways", "both", "ties", "paper", "m", "told", "k"] ["net", "ways"] (defScope s_least_load) := ⟨rfl, rfl, rfl, by decide +kernel, rfl, by decide +kernel, by decide +kernel⟩
abbrev s_is_turning : Stmt := topS 35
theorem sc_is_turning : FnScope ["ways", "turning", "turn"] ["ways", "turning"] (defScope s_is_turning) := ⟨rfl, rfl, rfl, by decide +kernel, rfl, by decide +kernel, by decide +kernel⟩
abbrev s_turned : Stmt := topS 36
theorem sc_turned : FnScope ["net", "ways", "turning", "turn", "a", "b"] ["net", "ways", "turning"] (defScope s_turned) := ⟨rfl, rfl, rfl, by decide +kernel, rfl, by decide +kernel, by decide +kernel⟩
abbrev s_parted : Stmt := topS 37
theorem sc_parted : FnScope ["net", "ways", "e", "f", "found", "k", "ties"] ["net", "ways", "e", "f"] (defScope s_parted) := ⟨rfl, rfl, rfl, by decide +kernel, rfl, by decide +kernel, by decide +kernel⟩
abbrev s_law_mix : Stmt := topS 39
theorem sc_law_mix : FnScope ["_law_number", "_law_k", "_law_mixed"] ["_law_number", "_law_k"] (defScope s_law_mix) := ⟨rfl, rfl, rfl, by decide +kernel, rfl, by decide +kernel, by decide +kernel⟩
abbrev s_law_left : Stmt := topS 40
theorem sc_law_left : FnScope ["_law_cell"] ["_law_cell"] (defScope s_law_left) := ⟨rfl, rfl, rfl, by decide +kernel, rfl, by decide +kernel, by decide +kernel⟩
abbrev s_law_draw : Stmt := topS 41
theorem sc_law_draw : FnScope ["_law_left_here", "_law_base", "_law_mixed", "_law_digit"] ["_law_left_here", "_law_base"] (defScope s_law_draw) := ⟨rfl, rfl, rfl, by decide +kernel, rfl, by decide +kernel, by decide +kernel⟩
abbrev s_law_way : Stmt := topS 42
theorem sc_law_way : FnScope ["_law_left_here", "_law_many", "_law_a", "_law_b"] ["_law_left_here", "_law_many"] (defScope s_law_way) := ⟨rfl, rfl, rfl, by decide +kernel, rfl, by decide +kernel, by decide +kernel⟩
abbrev s_law_twice : Stmt := topS 43
theorem sc_law_twice : FnScope ["_law_left_here", "_law_many", "_law_found", "_law_k", "_law_a", "_law_b"] ["_law_left_here", "_law_many"] (defScope s_law_twice) := ⟨rfl, rfl, rfl, by decide +kernel, rfl, by decide +kernel, by decide +kernel⟩
abbrev s_law_round : Stmt := topS 44
theorem sc_law_round : FnScope ["_law_left_here", "_law_many", "_law_first", "_law_here", "_law_found", "_law_k", "_law_other"] ["_law_left_here", "_law_many"] (defScope s_law_round) := ⟨rfl, rfl, rfl, by decide +kernel, rfl, by decide +kernel, by decide +kernel⟩
abbrev s_law_between : Stmt := topS 45
theorem sc_law_between : FnScope ["_law_way_here", "_law_e", "_law_f"] ["_law_way_here", "_law_e", "_law_f"] (defScope s_law_between) := ⟨rfl, rfl, rfl, by decide +kernel, rfl, by decide +kernel, by decide +kernel⟩
abbrev s_law_most : Stmt := topS 46
theorem sc_law_most : FnScope ["_law_many", "_law_ways", "_law_found", "_law_f", "_law_e", "_law_way_here"] ["_law_many", "_law_ways"] (defScope s_law_most) := ⟨rfl, rfl, rfl, by decide +kernel, rfl, by decide +kernel, by decide +kernel⟩
abbrev s_law_even : Stmt := topS 47
theorem sc_law_even : FnScope ["_law_many", "_law_ways", "_law_place", "_law_way_here"] ["_law_many", "_law_ways"] (defScope s_law_even) := ⟨rfl, rfl, rfl, by decide +kernel, rfl, by decide +kernel, by decide +kernel⟩
abbrev s_law : Stmt := topS 48
theorem sc_law : FnScope ["_law_script", "_law_cell", "_law_left_here", "_law_many", "_law_net", "_law_kind", "_law_ways", "_law_most_here", "_law_handed", "_law_least", "_law_turning", "_law_paper", "_law_f", "_law_e", "_law_k"] ["_law_script"] (defScope s_law) := ⟨rfl, rfl, rfl, by decide +kernel, rfl, by decide +kernel, by decide +kernel⟩
structure Ad where
  a_is_tree : Addr
  d_is_tree : FuncData
  a_look_net : Addr
  d_look_net : FuncData
  a_must_be_kind : Addr
  d_must_be_kind : FuncData
  a_places_of : Addr
  d_places_of : FuncData
  a_ties_many : Addr
  d_ties_many : FuncData
  a_is_way : Addr
  d_is_way : FuncData
  a_ties_on : Addr
  d_ties_on : FuncData
  a_must_be_ways : Addr
  d_must_be_ways : FuncData
  a_look_ways : Addr
  d_look_ways : FuncData
  a_look_ring : Addr
  d_look_ring : FuncData
  a_counted : Addr
  d_counted : FuncData
  a_loads : Addr
  d_loads : FuncData
  a_load : Addr
  d_load : FuncData
  a_is_whole : Addr
  d_is_whole : FuncData
  a_look_few : Addr
  d_look_few : FuncData
  a_lying : Addr
  d_lying : FuncData
  a_sum_at : Addr
  d_sum_at : FuncData
  a_settle : Addr
  d_settle : FuncData
  a_unlike_ties : Addr
  d_unlike_ties : FuncData
  a_heavy_pair : Addr
  d_heavy_pair : FuncData
  a_turned_or_paper : Addr
  d_turned_or_paper : FuncData
  a_least_load : Addr
  d_least_load : FuncData
  a_is_turning : Addr
  d_is_turning : FuncData
  a_turned : Addr
  d_turned : FuncData
  a_parted : Addr
  d_parted : FuncData
  a_law_mix : Addr
  d_law_mix : FuncData
  a_law_left : Addr
  d_law_left : FuncData
  a_law_draw : Addr
  d_law_draw : FuncData
  a_law_way : Addr
  d_law_way : FuncData
  a_law_twice : Addr
  d_law_twice : FuncData
  a_law_round : Addr
  d_law_round : FuncData
  a_law_between : Addr
  d_law_between : FuncData
  a_law_most : Addr
  d_law_most : FuncData
  a_law_even : Addr
  d_law_even : FuncData
  a_law : Addr
  d_law : FuncData
structure Txt (K : PySem.W.Frag) (mg : Str → Option Value) (A : Ad) : Prop where
  g_is_tree : mg "is_tree" = some (.ref A.a_is_tree)
  F_is_tree : Fun K "is_tree" "is_tree" s_is_tree A.a_is_tree A.d_is_tree
  b_is_tree : Binds K A.d_is_tree ["parents"] []
  g_look_net : mg "look_net" = some (.ref A.a_look_net)
  F_look_net : Fun K "look_net" "look_net" s_look_net A.a_look_net A.d_look_net
  b_look_net : Binds K A.d_look_net ["net"] []
  g_must_be_kind : mg "must_be_kind" = some (.ref A.a_must_be_kind)
  F_must_be_kind : Fun K "must_be_kind" "must_be_kind" s_must_be_kind A.a_must_be_kind A.d_must_be_kind
  b_must_be_kind : Binds K A.d_must_be_kind ["net", "kind"] []
  g_places_of : mg "places_of" = some (.ref A.a_places_of)
  F_places_of : Fun K "places_of" "places_of" s_places_of A.a_places_of A.d_places_of
  b_places_of : Binds K A.d_places_of ["net"] []
  g_ties_many : mg "ties_many" = some (.ref A.a_ties_many)
  F_ties_many : Fun K "ties_many" "ties_many" s_ties_many A.a_ties_many A.d_ties_many
  b_ties_many : Binds K A.d_ties_many ["net"] []
  g_is_way : mg "is_way" = some (.ref A.a_is_way)
  F_is_way : Fun K "is_way" "is_way" s_is_way A.a_is_way A.d_is_way
  b_is_way : Binds K A.d_is_way ["net", "way"] []
  g_ties_on : mg "ties_on" = some (.ref A.a_ties_on)
  F_ties_on : Fun K "ties_on" "ties_on" s_ties_on A.a_ties_on A.d_ties_on
  b_ties_on : Binds K A.d_ties_on ["net", "way"] []
  g_must_be_ways : mg "must_be_ways" = some (.ref A.a_must_be_ways)
  F_must_be_ways : Fun K "must_be_ways" "must_be_ways" s_must_be_ways A.a_must_be_ways A.d_must_be_ways
  b_must_be_ways : Binds K A.d_must_be_ways ["net", "ways"] []
  g_look_ways : mg "look_ways" = some (.ref A.a_look_ways)
  F_look_ways : Fun K "look_ways" "look_ways" s_look_ways A.a_look_ways A.d_look_ways
  b_look_ways : Binds K A.d_look_ways ["net", "ways"] []
  g_look_ring : mg "look_ring" = some (.ref A.a_look_ring)
  F_look_ring : Fun K "look_ring" "look_ring" s_look_ring A.a_look_ring A.d_look_ring
  b_look_ring : Binds K A.d_look_ring ["net"] []
  g_counted : mg "counted" = some (.ref A.a_counted)
  F_counted : Fun K "counted" "counted" s_counted A.a_counted A.d_counted
  b_counted : Binds K A.d_counted ["net", "ways"] []
  g_loads : mg "loads" = some (.ref A.a_loads)
  F_loads : Fun K "loads" "loads" s_loads A.a_loads A.d_loads
  b_loads : Binds K A.d_loads ["net", "ways"] []
  g_load : mg "load" = some (.ref A.a_load)
  F_load : Fun K "load" "load" s_load A.a_load A.d_load
  b_load : Binds K A.d_load ["net", "ways"] []
  g_is_whole : mg "is_whole" = some (.ref A.a_is_whole)
  F_is_whole : Fun K "is_whole" "is_whole" s_is_whole A.a_is_whole A.d_is_whole
  b_is_whole : Binds K A.d_is_whole ["thing"] []
  g_look_few : mg "look_few" = some (.ref A.a_look_few)
  F_look_few : Fun K "look_few" "look_few" s_look_few A.a_look_few A.d_look_few
  b_look_few : Binds K A.d_look_few ["net", "ways", "most"] []
  g_lying : mg "lying" = some (.ref A.a_lying)
  F_lying : Fun K "lying" "lying" s_lying A.a_lying A.d_lying
  b_lying : Binds K A.d_lying ["net", "ways"] []
  g_sum_at : mg "sum_at" = some (.ref A.a_sum_at)
  F_sum_at : Fun K "sum_at" "sum_at" s_sum_at A.a_sum_at A.d_sum_at
  b_sum_at : Binds K A.d_sum_at ["both", "settled", "e", "f"] []
  g_settle : mg "settle" = some (.ref A.a_settle)
  F_settle : Fun K "settle" "settle" s_settle A.a_settle A.d_settle
  b_settle : Binds K A.d_settle ["settled", "k", "turn"] []
  g_unlike_ties : mg "unlike_ties" = some (.ref A.a_unlike_ties)
  F_unlike_ties : Fun K "unlike_ties" "unlike_ties" s_unlike_ties A.a_unlike_ties A.d_unlike_ties
  b_unlike_ties : Binds K A.d_unlike_ties ["net", "both"] []
  g_heavy_pair : mg "heavy_pair" = some (.ref A.a_heavy_pair)
  F_heavy_pair : Fun K "heavy_pair" "heavy_pair" s_heavy_pair A.a_heavy_pair A.d_heavy_pair
  b_heavy_pair : Binds K A.d_heavy_pair ["both", "settled", "ties", "m"] []
  g_turned_or_paper : mg "turned_or_paper" = some (.ref A.a_turned_or_paper)
  F_turned_or_paper : Fun K "turned_or_paper" "turned_or_paper" s_turned_or_paper A.a_turned_or_paper A.d_turned_or_paper
  b_turned_or_paper : Binds K A.d_turned_or_paper ["both", "settled", "ties", "m"] []
  g_least_load : mg "least_load" = some (.ref A.a_least_load)
  F_least_load : Fun K "least_load" "least_load" s_least_load A.a_least_load A.d_least_load
  b_least_load : Binds K A.d_least_load ["net", "ways"] []
  g_is_turning : mg "is_turning" = some (.ref A.a_is_turning)
  F_is_turning : Fun K "is_turning" "is_turning" s_is_turning A.a_is_turning A.d_is_turning
  b_is_turning : Binds K A.d_is_turning ["ways", "turning"] []
  g_turned : mg "turned" = some (.ref A.a_turned)
  F_turned : Fun K "turned" "turned" s_turned A.a_turned A.d_turned
  b_turned : Binds K A.d_turned ["net", "ways", "turning"] []
  g_parted : mg "parted" = some (.ref A.a_parted)
  F_parted : Fun K "parted" "parted" s_parted A.a_parted A.d_parted
  b_parted : Binds K A.d_parted ["net", "ways", "e", "f"] []
  g_law_mix : mg "_law_mix" = some (.ref A.a_law_mix)
  F_law_mix : Fun K "_law_mix" "_law_mix" s_law_mix A.a_law_mix A.d_law_mix
  b_law_mix : Binds K A.d_law_mix ["_law_number", "_law_k"] []
  g_law_left : mg "_law_left" = some (.ref A.a_law_left)
  F_law_left : Fun K "_law_left" "_law_left" s_law_left A.a_law_left A.d_law_left
  b_law_left : Binds K A.d_law_left ["_law_cell"] []
  g_law_draw : mg "_law_draw" = some (.ref A.a_law_draw)
  F_law_draw : Fun K "_law_draw" "_law_draw" s_law_draw A.a_law_draw A.d_law_draw
  b_law_draw : Binds K A.d_law_draw ["_law_left_here", "_law_base"] []
  g_law_way : mg "_law_way" = some (.ref A.a_law_way)
  F_law_way : Fun K "_law_way" "_law_way" s_law_way A.a_law_way A.d_law_way
  b_law_way : Binds K A.d_law_way ["_law_left_here", "_law_many"] []
  g_law_twice : mg "_law_twice" = some (.ref A.a_law_twice)
  F_law_twice : Fun K "_law_twice" "_law_twice" s_law_twice A.a_law_twice A.d_law_twice
  b_law_twice : Binds K A.d_law_twice ["_law_left_here", "_law_many"] []
  g_law_round : mg "_law_round" = some (.ref A.a_law_round)
  F_law_round : Fun K "_law_round" "_law_round" s_law_round A.a_law_round A.d_law_round
  b_law_round : Binds K A.d_law_round ["_law_left_here", "_law_many"] []
  g_law_between : mg "_law_between" = some (.ref A.a_law_between)
  F_law_between : Fun K "_law_between" "_law_between" s_law_between A.a_law_between A.d_law_between
  b_law_between : Binds K A.d_law_between ["_law_way_here", "_law_e", "_law_f"] []
  g_law_most : mg "_law_most" = some (.ref A.a_law_most)
  F_law_most : Fun K "_law_most" "_law_most" s_law_most A.a_law_most A.d_law_most
  b_law_most : Binds K A.d_law_most ["_law_many", "_law_ways"] []
  g_law_even : mg "_law_even" = some (.ref A.a_law_even)
  F_law_even : Fun K "_law_even" "_law_even" s_law_even A.a_law_even A.d_law_even
  b_law_even : Binds K A.d_law_even ["_law_many", "_law_ways"] []
  g_law : mg "law" = some (.ref A.a_law)
  F_law : Fun K "law" "law" s_law A.a_law A.d_law
  b_law : Binds K A.d_law ["_law_script"] []
  c_MOST_PLACES : mg "MOST_PLACES" = some (.int 60 (g_tok mg "MOST_PLACES"))
  c_MOST : mg "MOST" = some (.int 14 (g_tok mg "MOST"))
  z_bool : mg "bool" = none
  z_dict : mg "dict" = none
  z_int : mg "int" = none
  z_isinstance : mg "isinstance" = none
  z_len : mg "len" = none
  z_list : mg "list" = none
  z_max : mg "max" = none
  z_min : mg "min" = none
  z_range : mg "range" = none
  z_sorted : mg "sorted" = none
  z_zip : mg "zip" = none
/-! ### nets -/
inductive Net where
  | line (n : Int)
  | ring (n : Int)
  | tree (ps : List Int)
def Net.kind : Net → Str
  | .line _ => Str.ofString "line"
  | .ring _ => Str.ofString "ring"
  | .tree _ => Str.ofString "tree"
def Net.size : Net → PyData
  | .line n => .int n
  | .ring n => .int n
  | .tree ps => dInts ps
abbrev Net.d (N : Net) : PyData := .tuple [.str N.kind, N.size]
def TreeOk (ps : List Int) : Prop := 1 ≤ ps.length ∧ ps.length < 60 ∧ ∀ k : Nat, k < ps.length → 0 ≤ ps.getD k 0 ∧ ps.getD k 0 ≤ k
def Net.ok : Net → Prop
  | .line n => 2 ≤ n ∧ n ≤ 60
  | .ring n => 3 ≤ n ∧ n ≤ 60
  | .tree ps => TreeOk ps
def Net.places : Net → Int
  | .line n => n
  | .ring n => n
  | .tree ps => ps.length + 1
theorem net_str {s t : Str} (h : decide (V.str s = V.str t) = true) : s = t := V.str.inj (of_decide_eq_true h)
/-- a net's tuple -/
theorem dp_net {K : PySem.W.Frag} {H : Hp} {v : V} {N : Net} (h : Dp K H v N.d) : ∃ a y, v = .ref a ∧ SqT K H a [.str N.kind, y] ∧ Dp K H y N.size := by
  obtain ⟨a, x, y, rfl, hs, hx, hy⟩ := dp_tup2 h
  obtain rfl := dp_str hx
  exact ⟨a, y, rfl, hs, hy⟩
theorem k_eqS {s t : Str} {H : Hp} {Q : VK} (h : Q (.bl (decide (s = t))) H) : rEq (.str s) (.str t) H Q := ⟨rfl, by
  have e : decide (V.str s = V.str t) = decide (s = t) := by
    by_cases c : s = t
    · rw [decide_eq_true c, decide_eq_true (by rw [c])]
    · rw [decide_eq_false c, decide_eq_false (fun z => c (V.str.inj z))]
  rw [e]; exact h⟩
theorem k_neS {s t : Str} {H : Hp} {Q : VK} (h : Q (.bl (!decide (s = t))) H) : rNe (.str s) (.str t) H Q := ⟨rfl, by
  have e : decide (V.str s = V.str t) = decide (s = t) := by
    by_cases c : s = t
    · rw [decide_eq_true c, decide_eq_true (by rw [c])]
    · rw [decide_eq_false c, decide_eq_false (fun z => c (V.str.inj z))]
  rw [e]; exact h⟩
theorem s_lt : decide (Str.ofString "line" = Str.ofString "tree") = false := by decide +kernel
theorem s_rt : decide (Str.ofString "ring" = Str.ofString "tree") = false := by decide +kernel
theorem s_lr : decide (Str.ofString "line" = Str.ofString "ring") = false := by decide +kernel
theorem s_rl : decide (Str.ofString "ring" = Str.ofString "line") = false := by decide +kernel
theorem s_tl : decide (Str.ofString "tree" = Str.ofString "line") = false := by decide +kernel
theorem s_tr : decide (Str.ofString "tree" = Str.ofString "ring") = false := by decide +kernel
theorem s_same (s : Str) : decide (s = s) = true := decide_eq_true rfl
/-- how far t lies up from a on a ring of n -/
def up (n a t : Int) : Int := if a ≤ t then t - a else t - a + n
/-- x lies in the part of the tree that hangs by k -/
def below (ps : List Int) (k : Nat) : Nat → Bool
  | 0 => decide (k = 0)
  | x + 1 => decide (k = x + 1) || (decide (k < x + 1) && if h : (ps.getD x 0).toNat < x + 1 then below ps k (ps.getD x 0).toNat else false)
termination_by x => x
decreasing_by exact h
def OnTie : Net → Int → Int → Int → Prop
  | .line _, a, b, t => min a b ≤ t ∧ t < max a b
  | .ring n, a, b, t => 0 ≤ t ∧ t < n ∧ up n a t < up n a b
  | .tree ps, a, b, t => 0 ≤ t ∧ t < ps.length ∧ below ps (t.toNat + 1) a.toNat ≠ below ps (t.toNat + 1) b.toNat
def Net.far : Net → Int → Int → List Int → Prop
  | .line _, a, b, ns => (ns.length : Int) = max a b - min a b
  | .ring n, a, b, ns => (ns.length : Int) = up n a b
  | .tree _, _, _, ns => ns.length < 120
def isWay (N : Net) (a b : Int) : Prop := a ≠ b ∧ 0 ≤ a ∧ 0 ≤ b ∧ a < N.places ∧ b < N.places
instance (N : Net) (a b : Int) : Decidable (isWay N a b) := by unfold isWay; infer_instance
structure TiesOf (N : Net) (a b : Int) (ns : List Int) : Prop where
  srt : ns.Pairwise (· < ·)
  mem : ∀ t, t ∈ ns ↔ OnTie N a b t
  far : N.far a b ns

variable {P : Program} {w : World} {K : PySem.W.Frag} {mg : Str → Option Value} {base : Heap} {A : Ad}
def pr_is_tree (K : PySem.W.Frag) (v0 : V) (H : Hp) (Q : VK) (_ : XK) : Prop := ∃ ps, Dp K H v0 (dInts ps) ∧ ps.length ≤ 10000 ∧ ∀ b, (b = true ↔ TreeOk ps) → Q (.bl b) H
def t_is_tree (K : PySem.W.Frag) : TS :=
  (tSeq (tIfS (tOr (tTest (tOp xLt (tCB (rLenX K) (tCons (tVar 0) tNil)) (tC (.int 1)))) (tTest (tOp xGe (tCB (rLenX K) (tCons (tVar 0) tNil)) (tC (.int 60))))) (tRet (tC (.bl false))) tNext)
    (tSeq (tFor (iRng1 (tCons (tCB (rLenX K) (tCons (tVar 0) tNil)) tNil)) (gName 1)
      (tIfS (tOr (tTest (tOp xLt (tOp (rIxL K) (tVar 0) (tVar 1)) (tC (.int 0)))) (tTest (tOp xGt (tOp (rIxL K) (tVar 0) (tVar 1)) (tVar 1)))) (tRet (tC (.bl false))) tNext))
    (tRet (tC (.bl true)))))
theorem pure_is_tree {v0 : V} {H : Hp} {Q : VK} {E : XK} (h : pr_is_tree K v0 H Q E) : t_is_tree K ⟨fun _ H' => Q .non H', Q, fun _ _ => False, fun _ _ => False⟩ [some v0, none] H := by
  obtain ⟨ps, hp, hz, q⟩ := h
  obtain ⟨a, rfl, ha⟩ := dp_ints hp
  unfold t_is_tree
  wtm_at "s"
  refine k_it (fun c1 => ?_) (fun c1 => ?_)
  · wtm_at "s"
    exact q _ (ff_iff fun z => absurd z.1 (by omega))
  wtm_at "s"
  refine k_it (fun c2 => ?_) (fun c2 => ?_)
  · wtm_at "s"
    exact q _ (ff_iff fun z => absurd z.2.1 (by omega))
  wtm_at "s"
  refine forR (fun i σ' H' => H' = H ∧ (∃ k, σ' = [some (.ref a), k]) ∧ ∀ k : Nat, k < i → 0 ≤ ps.getD k 0 ∧ ps.getD k 0 ≤ k) ⟨rfl, ⟨none, rfl⟩, fun k hk => absurd hk (by omega)⟩ ?_ ?_
  · rintro i σ' H' hi ⟨rfl, ⟨k, rfl⟩, hk⟩
    wtm_at "s"
    refine k_ixI ha (by omega) (by omega) ?_
    wtm_at "s"
    rw [show (0 + (i : Int)).toNat = i by omega]
    refine k_it (fun c3 => ?_) (fun c3 => ?_)
    · wtm_at "s"
      exact q _ (ff_iff fun z => absurd (z.2.2 i (by omega)).1 (by omega))
    wtm_at "s"
    refine k_ixI ha (by omega) (by omega) ?_
    wtm_at "s"
    rw [show (0 + (i : Int)).toNat = i by omega]
    refine k_it (fun c4 => ?_) (fun c4 => ?_)
    · wtm_at "s"
      exact q _ (ff_iff fun z => absurd (z.2.2 i (by omega)).2 (by omega))
    wtm_at "s"
    refine ⟨rfl, ⟨_, rfl⟩, fun k hk' => ?_⟩
    by_cases e : k = i
    · subst e; omega
    · exact hk k (by omega)
  · rintro σ' H' ⟨rfl, ⟨k, rfl⟩, hk⟩
    wtm_at "s"
    exact q _ (tt_iff ⟨by omega, by omega, fun k h => hk k (by omega)⟩)
abbrev sp_is_tree (K : PySem.W.Frag) : Sp := fun vs H Q E => ∃ v0, vs = [v0] ∧ pr_is_tree K v0 H Q E
theorem ok_is_tree (T : Txt K mg A) : FnOk P w K mg base CX0 1 A.a_is_tree A.d_is_tree ["parents"] (sp_is_tree K) := by
  refine T.F_is_tree.ok sc_is_tree (fun vs H Q E h => by obtain ⟨v0, rfl, _⟩ := h; rfl) (fun cdv A0 outer s H vs Q E hr h => ?_)
  obtain ⟨v0, rfl, h⟩ := h
  exact ⟨t_is_tree K, (pss_cons (ps_if (PW.pt (pw_or (pt_cmpR op_lt (pe_callB q_len (by rfl) T.z_len (by decide +kernel) (pa_cons (pv 0) pa_nil)) pe_int (nomark _)) (pw_or1 (pt_cmpR op_ge (pe_callB q_len (by rfl) T.z_len (by decide +kernel) (pa_cons (pv 0) pa_nil)) (pe_glob (v := .int 60) (by rfl) T.c_MOST_PLACES ⟨_, rfl⟩) (nomark _))))) (pss_one (ps_ret pe_bl)) pss_nil)
      (pss_cons (ps_for PassesOwn.never rfl (pi_range1 (by rfl) T.z_range (pa_cons (pe_callB q_len (by rfl) T.z_len (by decide +kernel) (pa_cons (pv 0) pa_nil)) pa_nil)) (pg_name (i := 1) sc_is_tree.nd rfl (Or.inl rfl))
      (pss_one (ps_if (PW.pt (pw_or (pt_cmpR op_lt (pe_ix ix_list (pv 0) (pv 1) (fun _ _ => rfl)) pe_int (nomark _)) (pw_or1 (pt_cmpR op_gt (pe_ix ix_list (pv 0) (pv 1) (fun _ _ => rfl)) (pv 1) (nomark _))))) (pss_one (ps_ret pe_bl)) pss_nil)))
      (pss_one (ps_ret pe_bl)))), pure_is_tree h⟩
def pr_look_net (K : PySem.W.Frag) (v0 : V) (H : Hp) (Q : VK) (_ : XK) : Prop := ∃ N : Net, Dp K H v0 N.d ∧ N.ok ∧ Q .non H
def t_look_net (K : PySem.W.Frag) : TS :=
  (tSeq (tAsg (tVar 0) (gTup K 2 (gCons (gName 1) (gCons (gName 2) gNil))))
    (tSeq (tIfS (tTest (tOp rEq (tVar 1) (tC (.str (Str.ofString "tree"))))) (tAsg (tAndV (tCB (rIsi K) (tCons (tVar 2) (tCons (tC (.ty "list")) tNil))) (tCall (sp_is_tree K) [] E0 (tCons (tVar 2) tNil))) (gName 3)) (tIfS (tOr (tTest (tOp rEq (tVar 1) (tC (.str (Str.ofString "line"))))) (tTest (tOp rEq (tVar 1) (tC (.str (Str.ofString "ring")))))) (tAsg (tAndV (tNotV (tCB (rIsi K) (tCons (tVar 2) (tCons (tC (.ty "list")) tNil)))) (tAndV (tOp xGe (tVar 2) (tOp xAdd (tC (.int 2)) (tCB rIntOf (tCons (tOp rEq (tVar 1) (tC (.str (Str.ofString "ring")))) tNil)))) (tOp xLe (tVar 2) (tC (.int 60))))) (gName 3)) (tAsg (tC (.bl false)) (gName 3))))
    (tIfS (tNot (tB (tVar 3))) tNever tNext)))
theorem pure_look_net {v0 : V} {H : Hp} {Q : VK} {E : XK} (h : pr_look_net K v0 H Q E) : t_look_net K ⟨fun _ H' => Q .non H', Q, fun _ _ => False, fun _ _ => False⟩ [some v0, none, none, none] H := by
  obtain ⟨N, hd, ok, q⟩ := h
  obtain ⟨a, y, rfl, hs, hy⟩ := dp_net hd
  unfold t_look_net
  cases N with
  | line n =>
    obtain rfl := dp_int hy
    obtain ⟨o1, o2⟩ := ok
    wtm_at "s"
    refine k_eqS ?_
    rw [show Net.kind (.line n) = Str.ofString "line" from rfl, s_lt]
    wtm_at "s"
    refine k_eqS ?_
    rw [s_same]
    wtm_at "s"
    refine k_eqS ?_
    rw [s_lr]
    wtm_at "s"
    have e1 : decide (2 + (if false = true then 1 else 0) ≤ n) = true := by simp; omega
    rw [e1]
    wtm_at "s"
    exact q
  | ring n =>
    obtain rfl := dp_int hy
    obtain ⟨o1, o2⟩ := ok
    wtm_at "s"
    refine k_eqS ?_
    rw [show Net.kind (.ring n) = Str.ofString "ring" from rfl, s_rt]
    wtm_at "s"
    refine k_eqS ?_
    rw [s_rl]
    wtm_at "s"
    refine k_eqS ?_
    rw [s_same]
    wtm_at "s"
    refine k_eqS ?_
    rw [s_same]
    wtm_at "s"
    exact q
  | tree ps =>
    obtain ⟨b, rfl, hb⟩ := dp_ints hy
    wtm_at "s"
    refine k_eqS ?_
    rw [show Net.kind (.tree ps) = Str.ofString "tree" from rfl, s_same]
    wtm_at "s"
    refine ⟨_, rfl, ps, hy, by have := ok.2.1; omega, fun r hr => ?_⟩
    obtain rfl := hr.mpr ok
    wtm_at "s"
    exact q
abbrev sp_look_net (K : PySem.W.Frag) : Sp := fun vs H Q E => ∃ v0, vs = [v0] ∧ pr_look_net K v0 H Q E
theorem ok_look_net (T : Txt K mg A) : FnOk P w K mg base CX0 2 A.a_look_net A.d_look_net ["net"] (sp_look_net K) := by
  refine T.F_look_net.ok sc_look_net (fun vs H Q E h => by obtain ⟨v0, rfl, _⟩ := h; rfl) (fun cdv A0 outer s H vs Q E hr h => ?_)
  obtain ⟨v0, rfl, h⟩ := h
  exact ⟨t_look_net K, (pss_cons (ps_asg (pv 0) (pg_tup (by rfl) (pgs_cons (pg_name (i := 1) sc_look_net.nd rfl (Or.inl rfl)) (pgs_cons (pg_name (i := 2) sc_look_net.nd rfl (Or.inl rfl)) pgs_nil))))
      (pss_cons (ps_if (pt_cmpR op_eq (pv 1) pe_str (nomark _)) (pss_one (ps_set (i := 3) sc_look_net.nd rfl (Or.inl rfl) (pe_and (pe_callB q_isi (by rfl) T.z_isinstance (by decide +kernel) (pa_cons (pv 2) (pa_cons (pe_bltn (v := .ty "list") (by rfl) T.z_list (by decide +kernel) rfl) pa_nil))) (pe_one (pe_call (ok_is_tree T) (hr.mono (by decide)) (by rfl) T.g_is_tree T.F_is_tree.kp T.b_is_tree .nil pass0 (pa_cons (pv 2) pa_nil)))))) (pss_one (ps_if (PW.pt (pw_or (pt_cmpR op_eq (pv 1) pe_str (nomark _)) (pw_or1 (pt_cmpR op_eq (pv 1) pe_str (nomark _))))) (pss_one (ps_set (i := 3) sc_look_net.nd rfl (Or.inl rfl) (pe_and (pe_not (pe_callB q_isi (by rfl) T.z_isinstance (by decide +kernel) (pa_cons (pv 2) (pa_cons (pe_bltn (v := .ty "list") (by rfl) T.z_list (by decide +kernel) rfl) pa_nil)))) (pe_and (pe_cmpR op_ge (pv 2) (pe_op op_add pe_int (pe_callTy q_intB (by rfl) T.z_int (by decide +kernel) (pa_cons (pe_cmpR op_eq (pv 1) pe_str (nomark _)) pa_nil))) (nomark _)) (pe_one (pe_cmpR op_le (pv 2) (pe_glob (v := .int 60) (by rfl) T.c_MOST_PLACES ⟨_, rfl⟩) (nomark _))))))) (pss_one (ps_set (i := 3) sc_look_net.nd rfl (Or.inl rfl) pe_bl)))))
      (pss_one (ps_if (pt_not (pt_val (pv 3))) (pss_one ps_never) pss_nil)))), pure_look_net h⟩
def pr_must_be_kind (K : PySem.W.Frag) (v0 v1 : V) (H : Hp) (Q : VK) (_ : XK) : Prop := ∃ N : Net, Dp K H v0 N.d ∧ N.ok ∧ v1 = .str N.kind ∧ Q .non H
def t_must_be_kind (K : PySem.W.Frag) : TS :=
  (tSeq (tDrop (tCall (sp_look_net K) [] E0 (tCons (tVar 0) tNil)))
    (tIfS (tTest (tOp rNe (tOp (rIxT K) (tVar 0) (tC (.int 0))) (tVar 1))) tNever tNext))
theorem pure_must_be_kind {v0 v1 : V} {H : Hp} {Q : VK} {E : XK} (h : pr_must_be_kind K v0 v1 H Q E) : t_must_be_kind K ⟨fun _ H' => Q .non H', Q, fun _ _ => False, fun _ _ => False⟩ [some v0, some v1] H := by
  obtain ⟨N, hd, ok, rfl, q⟩ := h
  obtain ⟨a, y, rfl, hs, hy⟩ := dp_net hd
  unfold t_must_be_kind
  wtm_at "s"
  refine ⟨_, rfl, N, hd, ok, ?_⟩
  wtm_at "s"
  refine k_neS ?_
  rw [s_same]
  wtm_at "s"
  exact q
abbrev sp_must_be_kind (K : PySem.W.Frag) : Sp := fun vs H Q E => ∃ v0 v1, vs = [v0, v1] ∧ pr_must_be_kind K v0 v1 H Q E
theorem ok_must_be_kind (T : Txt K mg A) : FnOk P w K mg base CX0 3 A.a_must_be_kind A.d_must_be_kind ["net", "kind"] (sp_must_be_kind K) := by
  refine T.F_must_be_kind.ok sc_must_be_kind (fun vs H Q E h => by obtain ⟨v0, v1, rfl, _⟩ := h; rfl) (fun cdv A0 outer s H vs Q E hr h => ?_)
  obtain ⟨v0, v1, rfl, h⟩ := h
  exact ⟨t_must_be_kind K, (pss_cons (ps_expr (pe_call (ok_look_net T) (hr.mono (by decide)) (by rfl) T.g_look_net T.F_look_net.kp T.b_look_net .nil pass0 (pa_cons (pv 0) pa_nil)))
      (pss_one (ps_if (pt_cmpR op_ne (pe_ix ix_tup (pv 0) pe_int (fun _ _ => rfl)) (pv 1) (nomark _)) (pss_one ps_never) pss_nil))), pure_must_be_kind h⟩


def pr_places_of (K : PySem.W.Frag) (v0 : V) (H : Hp) (Q : VK) (_ : XK) : Prop := ∃ N : Net, Dp K H v0 N.d ∧ Q (.int N.places) H
def t_places_of (K : PySem.W.Frag) : TS :=
  (tSeq (tIfS (tTest (tOp rEq (tOp (rIxT K) (tVar 0) (tC (.int 0))) (tC (.str (Str.ofString "tree"))))) (tRet (tOp xAdd (tCB (rLenX K) (tCons (tOp (rIxT K) (tVar 0) (tC (.int 1))) tNil)) (tC (.int 1)))) tNext)
    (tRet (tOp (rIxT K) (tVar 0) (tC (.int 1)))))
theorem pure_places_of {v0 : V} {H : Hp} {Q : VK} {E : XK} (h : pr_places_of K v0 H Q E) : t_places_of K ⟨fun _ H' => Q .non H', Q, fun _ _ => False, fun _ _ => False⟩ [some v0] H := by
  obtain ⟨N, hd, q⟩ := h
  obtain ⟨a, y, rfl, hs, hy⟩ := dp_net hd
  unfold t_places_of
  wtm_at "s"
  refine k_eqS ?_
  cases N with
  | line n =>
    obtain rfl := dp_int hy
    rw [show Net.kind (.line n) = Str.ofString "line" from rfl, s_lt]
    wtm_at "s"
    exact q
  | ring n =>
    obtain rfl := dp_int hy
    rw [show Net.kind (.ring n) = Str.ofString "ring" from rfl, s_rt]
    wtm_at "s"
    exact q
  | tree ps =>
    obtain ⟨b, rfl, hb⟩ := dp_ints hy
    rw [show Net.kind (.tree ps) = Str.ofString "tree" from rfl, s_same]
    wtm_at "s"
    exact q
abbrev sp_places_of (K : PySem.W.Frag) : Sp := fun vs H Q E => ∃ v0, vs = [v0] ∧ pr_places_of K v0 H Q E
theorem ok_places_of (T : Txt K mg A) : FnOk P w K mg base CX0 1 A.a_places_of A.d_places_of ["net"] (sp_places_of K) := by
  refine T.F_places_of.ok sc_places_of (fun vs H Q E h => by obtain ⟨v0, rfl, _⟩ := h; rfl) (fun cdv A0 outer s H vs Q E hr h => ?_)
  obtain ⟨v0, rfl, h⟩ := h
  exact ⟨t_places_of K, (pss_cons (ps_if (pt_cmpR op_eq (pe_ix ix_tup (pv 0) pe_int (fun _ _ => rfl)) pe_str (nomark _)) (pss_one (ps_ret (pe_op op_add (pe_callB q_len (by rfl) T.z_len (by decide +kernel) (pa_cons (pe_ix ix_tup (pv 0) pe_int (fun _ _ => rfl)) pa_nil)) pe_int))) pss_nil)
      (pss_one (ps_ret (pe_ix ix_tup (pv 0) pe_int (fun _ _ => rfl))))), pure_places_of h⟩
def pr_is_way (K : PySem.W.Frag) (v0 v1 : V) (H : Hp) (Q : VK) (_ : XK) : Prop := ∃ (N : Net) (a b : Int), Dp K H v0 N.d ∧ Dp K H v1 (dPair (a, b)) ∧ Q (.bl (decide (isWay N a b))) H
def t_is_way (K : PySem.W.Frag) : TS :=
  (tSeq (tAsg (tVar 1) (gTup K 2 (gCons (gName 2) (gCons (gName 3) gNil))))
    (tRet (tAndV (tOp rNe (tVar 2) (tVar 3)) (tAndV (tOp xGe (tCB rMin2 (tCons (tVar 2) (tCons (tVar 3) tNil))) (tC (.int 0))) (tOp xLt (tCB rMax2 (tCons (tVar 2) (tCons (tVar 3) tNil))) (tCall (sp_places_of K) [] E0 (tCons (tVar 0) tNil)))))))
theorem pure_is_way {v0 v1 : V} {H : Hp} {Q : VK} {E : XK} (h : pr_is_way K v0 v1 H Q E) : t_is_way K ⟨fun _ H' => Q .non H', Q, fun _ _ => False, fun _ _ => False⟩ [some v0, some v1, none, none] H := by
  obtain ⟨N, a, b, hd, hw, q⟩ := h
  obtain ⟨p, rfl, hp⟩ := dp_pair hw
  have kk : ∀ r : Bool, (r = true ↔ isWay N a b) → Q (.bl r) H := fun r hr => by
    have : r = decide (isWay N a b) := by
      by_cases c : isWay N a b
      · rw [decide_eq_true c]; exact hr.mpr c
      · rw [decide_eq_false c]
        cases r with
        | false => rfl
        | true => exact absurd (hr.mp rfl) c
    rw [this]; exact q
  unfold t_is_way
  wtm_at "s"
  refine k_itn (fun c1 => ?_) (fun c1 => ?_)
  · wtm_at "s"
    refine k_it (fun c2 => ?_) (fun c2 => ?_)
    · wtm_at "s"
      refine ⟨_, rfl, N, hd, ?_⟩
      wtm_at "s"
      refine kk _ ?_
      simp only [decide_eq_true_eq, isWay]
      constructor
      · intro z
        split at z <;> split at c2 <;> omega
      · intro z
        split <;> omega
    · wtm_at "s"
      refine kk _ (ff_iff fun z => c2 ?_)
      obtain ⟨z1, z2, z3, z4, z5⟩ := z
      split <;> omega
  · wtm_at "s"
    exact kk _ (ff_iff fun z => z.1 c1)
abbrev sp_is_way (K : PySem.W.Frag) : Sp := fun vs H Q E => ∃ v0 v1, vs = [v0, v1] ∧ pr_is_way K v0 v1 H Q E
theorem ok_is_way (T : Txt K mg A) : FnOk P w K mg base CX0 2 A.a_is_way A.d_is_way ["net", "way"] (sp_is_way K) := by
  refine T.F_is_way.ok sc_is_way (fun vs H Q E h => by obtain ⟨v0, v1, rfl, _⟩ := h; rfl) (fun cdv A0 outer s H vs Q E hr h => ?_)
  obtain ⟨v0, v1, rfl, h⟩ := h
  exact ⟨t_is_way K, (pss_cons (ps_asg (pv 1) (pg_tup (by rfl) (pgs_cons (pg_name (i := 2) sc_is_way.nd rfl (Or.inl rfl)) (pgs_cons (pg_name (i := 3) sc_is_way.nd rfl (Or.inl rfl)) pgs_nil))))
      (pss_one (ps_ret (pe_and (pe_cmpR op_ne (pv 2) (pv 3) (nomark _)) (pe_and (pe_cmpR op_ge (pe_callB (q_min2 (by rfl)) (by rfl) T.z_min (by decide +kernel) (pa_cons (pv 2) (pa_cons (pv 3) pa_nil))) pe_int (nomark _)) (pe_one (pe_cmpR op_lt (pe_callB (q_max2 (by rfl)) (by rfl) T.z_max (by decide +kernel) (pa_cons (pv 2) (pa_cons (pv 3) pa_nil))) (pe_call (ok_places_of T) (hr.mono (by decide)) (by rfl) T.g_places_of T.F_places_of.kp T.b_places_of .nil pass0 (pa_cons (pv 0) pa_nil)) (nomark _)))))))), pure_is_way h⟩


theorem below_lt {ps : List Int} {k : Nat} : ∀ x, x < k → below ps k x = false
  | 0, h => by unfold below; exact decide_eq_false (by omega)
  | x + 1, h => by
    unfold below
    rw [decide_eq_false (show ¬ k = x + 1 by omega), decide_eq_false (show ¬ k < x + 1 by omega)]; rfl
theorem below_self {ps : List Int} (k : Nat) : below ps k k = true := by
  cases k with
  | zero => unfold below; rfl
  | succ x => unfold below; rw [decide_eq_true rfl]; rfl
theorem below_step {ps : List Int} (h : TreeOk ps) {k x : Nat} (hx : x < ps.length) (hk : k ≠ x + 1) : below ps k (x + 1) = below ps k (ps.getD x 0).toNat := by
  have hp := h.2.2 x hx
  have hlt : (ps.getD x 0).toNat < x + 1 := by omega
  rw [below, decide_eq_false hk, Bool.false_or, dif_pos hlt]
  by_cases c : k < x + 1
  · rw [decide_eq_true c, Bool.true_and]
  · rw [decide_eq_false c, Bool.false_and, below_lt _ (by omega)]
theorem ring_step {n a b t : Int} (a0 : 0 ≤ a) (a1 : a < n) (b0 : 0 ≤ b) (b1 : b < n) (ne : a ≠ b) (t0 : 0 ≤ t) (t1 : t < n) :
    (up n a t < up n a b ↔ t = a ∨ up n ((a + 1) % n) t < up n ((a + 1) % n) b) ∧ (t = a → ¬ up n ((a + 1) % n) t < up n ((a + 1) % n) b) := by
  have e : (a + 1) % n = if a + 1 = n then 0 else a + 1 := by
    split
    · rename_i h; rw [h]; exact Int.emod_self
    · exact Int.emod_eq_of_lt (by omega) (by omega)
  rw [e]
  unfold up
  constructor
  · constructor
    · intro h; repeat' split at h
      all_goals repeat' split
      all_goals omega
    · intro h; repeat' split at h
      all_goals repeat' split
      all_goals omega
  · intro h; subst h
    repeat' split
    all_goals omega
theorem ring_far {n a b : Int} (a0 : 0 ≤ a) (a1 : a < n) (b0 : 0 ≤ b) (b1 : b < n) (ne : a ≠ b) : up n ((a + 1) % n) b = up n a b - 1 ∧ 0 ≤ (a + 1) % n ∧ (a + 1) % n < n ∧ 0 < up n a b ∧ up n a b < n := by
  have e : (a + 1) % n = if a + 1 = n then 0 else a + 1 := by
    split
    · rename_i h; rw [h]; exact Int.emod_self
    · exact Int.emod_eq_of_lt (by omega) (by omega)
  rw [e]
  unfold up
  refine ⟨?_, ?_, ?_, ?_, ?_⟩ <;> repeat' split
  all_goals omega
theorem up_self (n a : Int) : up n a a = 0 := by unfold up; split <;> omega
theorem up_nonneg {n a b : Int} (a0 : 0 ≤ a) (a1 : a < n) (b0 : 0 ≤ b) (b1 : b < n) : 0 ≤ up n a b := by unfold up; split <;> omega
/-- the greater end climbs -/
theorem tree_step {ps : List Int} (h : TreeOk ps) {x y t : Int} (x0 : 0 ≤ x) (x1 : x < ps.length + 1) (y0 : 0 ≤ y) (yx : y < x) (t0 : 0 ≤ t) :
    (below ps (t.toNat + 1) x.toNat ≠ below ps (t.toNat + 1) y.toNat ↔ t = x - 1 ∨ below ps (t.toNat + 1) (ps.getD (x - 1).toNat 0).toNat ≠ below ps (t.toNat + 1) y.toNat) ∧
    (t = x - 1 → ¬ below ps (t.toNat + 1) (ps.getD (x - 1).toNat 0).toNat ≠ below ps (t.toNat + 1) y.toNat) := by
  have hp := h.2.2 (x - 1).toNat (by omega)
  by_cases c : t = x - 1
  · subst c
    have e1 : (x - 1).toNat + 1 = x.toNat := by omega
    rw [e1, below_self, below_lt y.toNat (by omega), below_lt (ps.getD (x - 1).toNat 0).toNat (by omega)]
    simp
  · have e1 : x.toNat = (x - 1).toNat + 1 := by omega
    have := below_step h (k := t.toNat + 1) (x := (x - 1).toNat) (by omega) (by omega)
    rw [e1, this]
    simp [c]
theorem srt_of {fs ns : List Int} (nd : fs.Nodup) (pm : ns.Perm fs) (srt : ns.Pairwise (· ≤ ·)) : ns.Pairwise (· < ·) := by
  have := srt.and (pm.nodup_iff.mpr nd)
  exact this.imp fun ⟨a, b⟩ => by omega
def pr_ties_on (K : PySem.W.Frag) (v0 v1 : V) (H : Hp) (Q : VK) (_ : XK) : Prop := ∃ (N : Net) (a b : Int), Dp K H v0 N.d ∧ Dp K H v1 (dPair (a, b)) ∧ N.ok ∧ isWay N a b ∧ ∀ p ns H', H p = none → Same H H' → H' p = some (.lst (List.map V.int ns)) → TiesOf N a b ns → Q (.ref p) H'
def t_ties_on (K : PySem.W.Frag) : TS :=
  (tSeq (tAsg (tVar 1) (gTup K 2 (gCons (gName 2) (gCons (gName 3) gNil))))
    (tSeq (tAsg (tLst tNil) (gName 4))
    (tSeq (tIfS (tTest (tOp rEq (tOp (rIxT K) (tVar 0) (tC (.int 0))) (tC (.str (Str.ofString "line"))))) (tRet (tLstRg (tRg2 (tCB rMin2 (tCons (tVar 2) (tCons (tVar 3) tNil))) (tCB rMax2 (tCons (tVar 2) (tCons (tVar 3) tNil)))))) tNext)
    (tSeq (tWhile (tTest (tOp rNe (tVar 2) (tVar 3)))
      (tIfS (tTest (tOp rEq (tOp (rIxT K) (tVar 0) (tC (.int 0))) (tC (.str (Str.ofString "ring"))))) (tSeq (tDrop (tBM K "list" rAppend (tVar 4) (tCons (tVar 2) tNil)))
    (tAsg (tOp xMod (tOp xAdd (tVar 2) (tC (.int 1))) (tOp (rIxT K) (tVar 0) (tC (.int 1)))) (gName 2))) (tIfS (tTest (tOp xGt (tVar 2) (tVar 3))) (tSeq (tDrop (tBM K "list" rAppend (tVar 4) (tCons (tOp xSub (tVar 2) (tC (.int 1))) tNil)))
    (tAsg (tOp (rIxL K) (tOp (rIxT K) (tVar 0) (tC (.int 1))) (tOp xSub (tVar 2) (tC (.int 1)))) (gName 2))) (tSeq (tDrop (tBM K "list" rAppend (tVar 4) (tCons (tOp xSub (tVar 3) (tC (.int 1))) tNil)))
    (tAsg (tOp (rIxL K) (tOp (rIxT K) (tVar 0) (tC (.int 1))) (tOp xSub (tVar 3) (tC (.int 1)))) (gName 3))))))
    (tRet (tCB (rSortedI K) (tCons (tVar 4) tNil)))))))
def Net.far2 (N : Net) (a b a' b' : Int) (fs : List Int) (m : Nat) : Prop := match N with
  | .line _ => True
  | .ring n => (m : Int) = up n a' b' ∧ (fs.length : Int) + m = up n a b
  | .tree _ => (m : Int) = a' + b' ∧ (fs.length : Int) + m ≤ a + b
theorem pure_ties_on {v0 v1 : V} {H : Hp} {Q : VK} {E : XK} (h : pr_ties_on K v0 v1 H Q E) : t_ties_on K ⟨fun _ H' => Q .non H', Q, fun _ _ => False, fun _ _ => False⟩ [some v0, some v1, none, none, none] H := by
  obtain ⟨N, a, b, hd, hw, ok, ⟨w1, w2, w3, w4, w5⟩, q⟩ := h
  obtain ⟨c, y, rfl, hs, hy⟩ := dp_net hd
  obtain ⟨p, rfl, hp⟩ := dp_pair hw
  unfold t_ties_on
  wtm_at "s"
  refine ⟨sz (by simp), fun fo nfo => ?_⟩
  have s1 := same_new (o := .lst []) nfo
  have e1 : upd H fo (.lst []) fo = some (.lst (List.map V.int [])) := upd_same
  generalize upd H fo (.lst []) = H1 at s1 e1 ⊢
  wtm_at "s"
  refine k_eqS ?_
  have loop : ∀ (nx : L2.St → Hp → Prop) (bk ct : L2.St → Hp → Prop), (match N with | .line _ => False | _ => True) → ∀ (W : Nat → L2.St → Hp → Prop), True := fun _ _ _ _ _ => trivial
  cases N with
  | line n =>
    obtain rfl := dp_int hy
    rw [show Net.kind (.line n) = Str.ofString "line" from rfl, s_same]
    obtain ⟨o1, o2⟩ := ok
    have w4' : a < n := w4
    have w5' : b < n := w5
    wtm_at "s"
    have hmn : (if b < a then b else a) = min a b := by split <;> omega
    have hmx : (if b > a then b else a) = max a b := by split <;> omega
    rw [hmn, hmx]
    refine ⟨.of_le (by omega) (by omega) (by omega) (by omega), fun l nl => ?_⟩
    refine q l ((List.range (max a b - min a b).toNat).map fun i => min a b + (i : Nat)) _ (s1.free nl) (s1.trans (same_new nl)) (by rw [upd_same, rg_ints]) ⟨?_, fun t => ?_, ?_⟩
    · exact List.pairwise_map.mpr (List.pairwise_lt_range.imp fun h => by omega)
    · show _ ↔ min a b ≤ t ∧ t < max a b
      rw [List.mem_map]
      constructor
      · rintro ⟨i, hi, rfl⟩
        have := List.mem_range.mp hi
        omega
      · intro h
        exact ⟨(t - min a b).toNat, List.mem_range.mpr (by omega), by omega⟩
    · show ((List.map _ _).length : Int) = max a b - min a b
      rw [List.length_map, List.length_range]
      omega
  | ring n =>
    obtain rfl := dp_int hy
    rw [show Net.kind (.ring n) = Str.ofString "ring" from rfl] at hs ⊢
    rw [s_rl]
    obtain ⟨o1, o2⟩ := ok
    have w4' : a < n := w4
    have w5' : b < n := w5
    have u0 := up_nonneg w2 w4' w3 w5'
    wtm_at "s"
    refine ⟨fun m σ' H' => ∃ a' fs, σ' = [some (.ref c), some (.ref p), some (.int a'), some (.int b), some (.ref fo)] ∧ Same H H' ∧ H' fo = some (.lst (List.map V.int fs)) ∧ 0 ≤ a' ∧ a' < n ∧ fs.Nodup ∧ (m : Int) = up n a' b ∧ (fs.length : Int) + m = up n a b ∧
      (∀ t, OnTie (.ring n) a b t ↔ t ∈ fs ∨ OnTie (.ring n) a' b t) ∧ (∀ t, t ∈ fs → ¬ OnTie (.ring n) a' b t),
      ⟨(up n a b).toNat, a, [], rfl, s1, e1, w2, w4', List.nodup_nil, by omega, by simp; omega, fun t => by simp, fun t z => by cases z⟩, ?_⟩
    rintro m σ' H' ⟨a', fs, rfl, sm, hf, a0, a1, nd, hm, hfl, ht, hn⟩
    wtm_at "s"
    refine k_itn (fun c1 => ?_) (fun c1 => ?_)
    · obtain ⟨f1, f2, f3, f4, f5⟩ := ring_far a0 a1 w3 w5' c1
      have uab : up n a b < n := by unfold up; split <;> omega
      refine ⟨fun σ' H' => ∃ fs', σ' = [some (.ref c), some (.ref p), some (.int ((a' + 1) % n)), some (.int b), some (.ref fo)] ∧ Same H H' ∧ H' fo = some (.lst (List.map V.int fs')) ∧ fs'.Nodup ∧ (fs'.length : Int) + (m - 1 : Nat) = up n a b ∧
        (∀ t, OnTie (.ring n) a b t ↔ t ∈ fs' ∨ OnTie (.ring n) ((a' + 1) % n) b t) ∧ (∀ t, t ∈ fs' → ¬ OnTie (.ring n) ((a' + 1) % n) b t), fun σ' H' ⟨fs', e, g1, g2, g3, g4, g5, g6⟩ => ⟨m - 1, by omega, _, fs', e, g1, g2, f2, f3, g3, by omega, g4, g5, g6⟩, ?_⟩
      have hs' : SqT K H' c [.str (Str.ofString "ring"), .int n] := same_seqT sm hs
      wtm_at "s"
      refine k_eqS ?_
      rw [s_same]
      wtm_at "s"
      refine k_tyL (sl hf) ?_
      wtm_at "s"
      refine k_append hf (by rw [List.length_map]; omega) ?_
      have hs2 : SqT K (upd H' fo (.lst (List.map V.int fs ++ [.int a']))) c [.str (Str.ofString "ring"), .int n] := same_seqT (same_mut sm nfo) hs
      wtm_at "s"
      refine ⟨fs ++ [a'], rfl, same_mut sm nfo, by rw [upd_same, List.map_append]; rfl, ?_, ?_, fun t => ?_, fun t z => ?_⟩
      · refine List.nodup_append.mpr ⟨nd, by simp, fun x hx y hy e => ?_⟩
        have : y = a' := by simpa using hy
        subst this; subst e
        exact hn x hx ⟨a0, a1, by rw [up_self]; exact f4⟩
      · rw [List.length_append]; show ((fs.length + 1 : Nat) : Int) + _ = _; omega
      · rw [ht t, List.mem_append]
        show t ∈ fs ∨ (0 ≤ t ∧ t < n ∧ up n a' t < up n a' b) ↔ (t ∈ fs ∨ t ∈ [a']) ∨ (0 ≤ t ∧ t < n ∧ _)
        by_cases r : 0 ≤ t ∧ t < n
        · have st := (ring_step a0 a1 w3 w5' c1 r.1 r.2).1
          simp only [r.1, r.2, true_and, List.mem_singleton, st, or_assoc]
        · have : t ≠ a' := fun e => r (by omega)
          constructor
          · rintro (h | h)
            · exact .inl (.inl h)
            · exact absurd ⟨h.1, h.2.1⟩ r
          · rintro ((h | h) | h)
            · exact .inl h
            · exact absurd (by simpa using h) this
            · exact absurd ⟨h.1, h.2.1⟩ r
      · rcases List.mem_append.mp z with z | z
        · intro o
          obtain ⟨o1, o2, o3⟩ := o
          exact hn t z ⟨o1, o2, (ring_step a0 a1 w3 w5' c1 o1 o2).1.mpr (.inr o3)⟩
        · have e : t = a' := by simpa using z
          intro o
          obtain ⟨o1, o2, o3⟩ := o
          exact (ring_step a0 a1 w3 w5' c1 o1 o2).2 e o3
    · subst c1
      rw [up_self] at hm
      wtm_at "s"
      refine k_sortedI (sl hf) (fun ns l pm srt nl => ?_)
      refine q l ns _ (sm.free nl) (sm.trans (same_new nl)) upd_same ⟨srt_of nd pm srt, fun t => ?_, ?_⟩
      · rw [pm.mem_iff, ht t]
        constructor
        · exact .inl
        · rintro (h | h)
          · exact h
          · obtain ⟨_, _, h⟩ := h
            rw [up_self] at h
            have := up_nonneg a0 a1 (b := t) (by assumption) (by assumption)
            omega
      · show (ns.length : Int) = up n a a'
        rw [pm.length_eq]; omega
  | tree ps =>
    obtain ⟨d, rfl, hdl⟩ := dp_ints hy
    rw [show Net.kind (.tree ps) = Str.ofString "tree" from rfl] at hs ⊢
    rw [s_tl]
    have w4' : a < ps.length + 1 := w4
    have w5' : b < ps.length + 1 := w5
    have l60 := ok.2.1
    wtm_at "s"
    refine ⟨fun m σ' H' => ∃ a' b' fs, σ' = [some (.ref c), some (.ref p), some (.int a'), some (.int b'), some (.ref fo)] ∧ Same H H' ∧ H' fo = some (.lst (List.map V.int fs)) ∧ 0 ≤ a' ∧ a' < ps.length + 1 ∧ 0 ≤ b' ∧ b' < ps.length + 1 ∧ fs.Nodup ∧ (m : Int) = a' + b' ∧ (fs.length : Int) + m ≤ a + b ∧
      (∀ t, OnTie (.tree ps) a b t ↔ t ∈ fs ∨ OnTie (.tree ps) a' b' t) ∧ (∀ t, t ∈ fs → ¬ OnTie (.tree ps) a' b' t),
      ⟨(a + b).toNat, a, b, [], rfl, s1, e1, w2, w4', w3, w5', List.nodup_nil, by omega, by simp; omega, fun t => by simp, fun t z => by cases z⟩, ?_⟩
    rintro m σ' H' ⟨a', b', fs, rfl, sm, hf, a0, a1, b0, b1, nd, hm, hfl, ht, hn⟩
    wtm_at "s"
    refine k_itn (fun c1 => ?_) (fun c1 => ?_)
    · refine ⟨fun σ' H' => ∃ m' a2 b2 fs', m' < m ∧ σ' = [some (.ref c), some (.ref p), some (.int a2), some (.int b2), some (.ref fo)] ∧ Same H H' ∧ H' fo = some (.lst (List.map V.int fs')) ∧ 0 ≤ a2 ∧ a2 < ps.length + 1 ∧ 0 ≤ b2 ∧ b2 < ps.length + 1 ∧ fs'.Nodup ∧ (m' : Int) = a2 + b2 ∧ (fs'.length : Int) + m' ≤ a + b ∧
        (∀ t, OnTie (.tree ps) a b t ↔ t ∈ fs' ∨ OnTie (.tree ps) a2 b2 t) ∧ (∀ t, t ∈ fs' → ¬ OnTie (.tree ps) a2 b2 t), fun σ' H' ⟨m', a2, b2, fs', l, r⟩ => ⟨m', l, a2, b2, fs', r⟩, ?_⟩
      have hs' : SqT K H' c [.str (Str.ofString "tree"), .ref d] := same_seqT sm hs
      wtm_at "s"
      refine k_eqS ?_
      rw [s_tr]
      wtm_at "s"
      refine k_it (fun c2 => ?_) (fun c2 => ?_)
      · have hpa := ok.2.2 (a' - 1).toNat (by omega)
        wtm_at "s"
        refine k_tyL (sl hf) ?_
        wtm_at "s"
        refine k_append hf (by rw [List.length_map]; omega) ?_
        have sm2 : Same H (upd H' fo (.lst (List.map V.int fs ++ [.int (a' - 1)]))) := same_mut sm nfo
        have hs2 : SqT K (upd H' fo (.lst (List.map V.int fs ++ [.int (a' - 1)]))) c [.str (Str.ofString "tree"), .ref d] := same_seqT sm2 hs
        wtm_at "s"
        refine k_ixI (sm2.seq hdl) (by omega) (by omega) ?_
        wtm_at "s"
        refine ⟨(ps.getD (a' - 1).toNat 0 + b').toNat, _, _, fs ++ [a' - 1], by omega, rfl, sm2, by rw [upd_same, List.map_append]; rfl, by omega, by omega, b0, b1, ?_, by omega, ?_, fun t => ?_, fun t z => ?_⟩
        · refine List.nodup_append.mpr ⟨nd, by simp, fun x hx y hy e => ?_⟩
          have : y = a' - 1 := by simpa using hy
          subst this; subst e
          exact hn _ hx ⟨by omega, by omega, (tree_step ok a0 a1 b0 c2 (by omega)).1.mpr (.inl rfl)⟩
        · rw [List.length_append]; show ((fs.length + 1 : Nat) : Int) + _ ≤ _; omega
        · rw [ht t, List.mem_append]
          show t ∈ fs ∨ (0 ≤ t ∧ t < ps.length ∧ _) ↔ (t ∈ fs ∨ t ∈ [a' - 1]) ∨ (0 ≤ t ∧ t < ps.length ∧ _)
          by_cases r : 0 ≤ t ∧ t < ps.length
          · have st := (tree_step ok a0 a1 b0 c2 r.1).1
            simp only [r.1, r.2, true_and, List.mem_singleton, st, or_assoc]
          · have : t ≠ a' - 1 := fun e => r (by omega)
            constructor
            · rintro (h | h)
              · exact .inl (.inl h)
              · exact absurd ⟨h.1, h.2.1⟩ r
            · rintro ((h | h) | h)
              · exact .inl h
              · exact absurd (by simpa using h) this
              · exact absurd ⟨h.1, h.2.1⟩ r
        · rcases List.mem_append.mp z with z | z
          · rintro ⟨o1, o2, o3⟩
            exact hn t z ⟨o1, o2, (tree_step ok a0 a1 b0 c2 o1).1.mpr (.inr o3)⟩
          · have e : t = a' - 1 := by simpa using z
            rintro ⟨o1, o2, o3⟩
            exact (tree_step ok a0 a1 b0 c2 o1).2 e o3
      · have c3 : a' < b' := by omega
        have hpb := ok.2.2 (b' - 1).toNat (by omega)
        have sym : ∀ u v t, OnTie (.tree ps) u v t ↔ OnTie (.tree ps) v u t := fun u v t => by
          show (_ ∧ _ ∧ _ ≠ _) ↔ (_ ∧ _ ∧ _ ≠ _)
          constructor
          · rintro ⟨x1, x2, x3⟩; exact ⟨x1, x2, x3.symm⟩
          · rintro ⟨x1, x2, x3⟩; exact ⟨x1, x2, x3.symm⟩
        wtm_at "s"
        refine k_tyL (sl hf) ?_
        wtm_at "s"
        refine k_append hf (by rw [List.length_map]; omega) ?_
        have sm2 : Same H (upd H' fo (.lst (List.map V.int fs ++ [.int (b' - 1)]))) := same_mut sm nfo
        have hs2 : SqT K (upd H' fo (.lst (List.map V.int fs ++ [.int (b' - 1)]))) c [.str (Str.ofString "tree"), .ref d] := same_seqT sm2 hs
        wtm_at "s"
        refine k_ixI (sm2.seq hdl) (by omega) (by omega) ?_
        wtm_at "s"
        refine ⟨(a' + ps.getD (b' - 1).toNat 0).toNat, _, _, fs ++ [b' - 1], by omega, rfl, sm2, by rw [upd_same, List.map_append]; rfl, a0, a1, by omega, by omega, ?_, by omega, ?_, fun t => ?_, fun t z => ?_⟩
        · refine List.nodup_append.mpr ⟨nd, by simp, fun x hx y hy e => ?_⟩
          have : y = b' - 1 := by simpa using hy
          subst this; subst e
          exact hn _ hx ((sym _ _ _).mpr ⟨by omega, by omega, (tree_step ok b0 b1 a0 c3 (by omega)).1.mpr (.inl rfl)⟩)
        · rw [List.length_append]; show ((fs.length + 1 : Nat) : Int) + _ ≤ _; omega
        · rw [ht t, List.mem_append, sym a' b', sym a' (ps.getD (b' - 1).toNat 0)]
          show t ∈ fs ∨ (0 ≤ t ∧ t < ps.length ∧ _) ↔ (t ∈ fs ∨ t ∈ [b' - 1]) ∨ (0 ≤ t ∧ t < ps.length ∧ _)
          by_cases r : 0 ≤ t ∧ t < ps.length
          · have st := (tree_step ok b0 b1 a0 c3 r.1).1
            simp only [r.1, r.2, true_and, List.mem_singleton, st, or_assoc]
          · have : t ≠ b' - 1 := fun e => r (by omega)
            constructor
            · rintro (h | h)
              · exact .inl (.inl h)
              · exact absurd ⟨h.1, h.2.1⟩ r
            · rintro ((h | h) | h)
              · exact .inl h
              · exact absurd (by simpa using h) this
              · exact absurd ⟨h.1, h.2.1⟩ r
        · rw [sym]
          rcases List.mem_append.mp z with z | z
          · rintro ⟨o1, o2, o3⟩
            exact hn t z ((sym _ _ _).mpr ⟨o1, o2, (tree_step ok b0 b1 a0 c3 o1).1.mpr (.inr o3)⟩)
          · have e : t = b' - 1 := by simpa using z
            rintro ⟨o1, o2, o3⟩
            exact (tree_step ok b0 b1 a0 c3 o1).2 e o3
    · subst c1
      wtm_at "s"
      refine k_sortedI (sl hf) (fun ns l pm srt nl => ?_)
      refine q l ns _ (sm.free nl) (sm.trans (same_new nl)) upd_same ⟨srt_of nd pm srt, fun t => ?_, ?_⟩
      · rw [pm.mem_iff, ht t]
        constructor
        · exact .inl
        · rintro (h | h)
          · exact h
          · exact absurd rfl h.2.2
      · show ns.length < 120
        rw [pm.length_eq]; omega
abbrev sp_ties_on (K : PySem.W.Frag) : Sp := fun vs H Q E => ∃ v0 v1, vs = [v0, v1] ∧ pr_ties_on K v0 v1 H Q E
theorem ok_ties_on (T : Txt K mg A) : FnOk P w K mg base CX0 1 A.a_ties_on A.d_ties_on ["net", "way"] (sp_ties_on K) := by
  refine T.F_ties_on.ok sc_ties_on (fun vs H Q E h => by obtain ⟨v0, v1, rfl, _⟩ := h; rfl) (fun cdv A0 outer s H vs Q E hr h => ?_)
  obtain ⟨v0, v1, rfl, h⟩ := h
  exact ⟨t_ties_on K, (pss_cons (ps_asg (pv 1) (pg_tup (by rfl) (pgs_cons (pg_name (i := 2) sc_ties_on.nd rfl (Or.inl rfl)) (pgs_cons (pg_name (i := 3) sc_ties_on.nd rfl (Or.inl rfl)) pgs_nil))))
      (pss_cons (ps_set (i := 4) sc_ties_on.nd rfl (Or.inl rfl) (pe_lst pa_nil))
      (pss_cons (ps_if (pt_cmpR op_eq (pe_ix ix_tup (pv 0) pe_int (fun _ _ => rfl)) pe_str (nomark _)) (pss_one (ps_ret (pe_listRg (by rfl) (by rfl) T.z_list (prg_2 (by rfl) T.z_range (pe_callB (q_min2 (by rfl)) (by rfl) T.z_min (by decide +kernel) (pa_cons (pv 2) (pa_cons (pv 3) pa_nil))) (pe_callB (q_max2 (by rfl)) (by rfl) T.z_max (by decide +kernel) (pa_cons (pv 2) (pa_cons (pv 3) pa_nil))))))) pss_nil)
      (pss_cons (ps_while PassesOwn.never (pt_cmpR op_ne (pv 2) (pv 3) (nomark _))
      (pss_one (ps_if (pt_cmpR op_eq (pe_ix ix_tup (pv 0) pe_int (fun _ _ => rfl)) pe_str (nomark _)) (pss_cons (ps_expr (pe_bm PySem.F.plainAttrs_list PySem.F.slot_list_append PySem.F.type_list_append mt_append (pv 4) (pa_cons (pv 2) pa_nil)))
      (pss_one (ps_set (i := 2) sc_ties_on.nd rfl (Or.inl rfl) (pe_op op_mod (pe_op op_add (pv 2) pe_int) (pe_ix ix_tup (pv 0) pe_int (fun _ _ => rfl)))))) (pss_one (ps_if (pt_cmpR op_gt (pv 2) (pv 3) (nomark _)) (pss_cons (ps_expr (pe_bm PySem.F.plainAttrs_list PySem.F.slot_list_append PySem.F.type_list_append mt_append (pv 4) (pa_cons (pe_op op_sub (pv 2) pe_int) pa_nil)))
      (pss_one (ps_set (i := 2) sc_ties_on.nd rfl (Or.inl rfl) (pe_ix ix_list (pe_ix ix_tup (pv 0) pe_int (fun _ _ => rfl)) (pe_op op_sub (pv 2) pe_int) (fun _ _ => rfl))))) (pss_cons (ps_expr (pe_bm PySem.F.plainAttrs_list PySem.F.slot_list_append PySem.F.type_list_append mt_append (pv 4) (pa_cons (pe_op op_sub (pv 3) pe_int) pa_nil)))
      (pss_one (ps_set (i := 3) sc_ties_on.nd rfl (Or.inl rfl) (pe_ix ix_list (pe_ix ix_tup (pv 0) pe_int (fun _ _ => rfl)) (pe_op op_sub (pv 3) pe_int) (fun _ _ => rfl))))))))))
      (pss_one (ps_ret (pe_callB cr_sortedI (by rfl) T.z_sorted (by decide +kernel) (pa_cons (pv 4) pa_nil)))))))), pure_ties_on h⟩


def pr_must_be_ways (K : PySem.W.Frag) (v0 v1 : V) (H : Hp) (Q : VK) (_ : XK) : Prop := ∃ (N : Net) (ws : List (Int × Int)), Dp K H v0 N.d ∧ Dp K H v1 (dPairs ws) ∧ ws.length ≤ 10000 ∧ (∀ w ∈ ws, isWay N w.1 w.2) ∧ Q .non H
def t_must_be_ways (K : PySem.W.Frag) : TS :=
  (tFor (iRng1 (tCons (tCB (rLenX K) (tCons (tVar 1) tNil)) tNil)) (gName 2)
      (tIfS (tNot (tB (tCall (sp_is_way K) [] E0 (tCons (tVar 0) (tCons (tOp (rIxL K) (tVar 1) (tVar 2)) tNil))))) tNever tNext))
theorem pure_must_be_ways {v0 v1 : V} {H : Hp} {Q : VK} {E : XK} (h : pr_must_be_ways K v0 v1 H Q E) : t_must_be_ways K ⟨fun _ H' => Q .non H', Q, fun _ _ => False, fun _ _ => False⟩ [some v0, some v1, none] H := by
  obtain ⟨N, ws, hd, hw, hz, hok, q⟩ := h
  obtain ⟨b, xs, rfl, hb, hxs⟩ := dp_list hw
  have hl := dpa_len hxs
  rw [List.length_map] at hl
  unfold t_must_be_ways
  wtm_at "s"
  rw [hl]
  refine forR (fun i σ' H' => H' = H ∧ ∃ k, σ' = [some v0, some (.ref b), k]) ⟨rfl, none, rfl⟩ ?_ (fun σ' H' ⟨e, _⟩ => e ▸ q)
  rintro i σ' H' hi ⟨rfl, k, rfl⟩
  have hi' : i < xs.length := by omega
  obtain ⟨x, hx⟩ : ∃ x, xs[i]? = some x := ⟨xs[i], List.getElem?_eq_getElem hi'⟩
  obtain ⟨d, hd1, hd2⟩ := dpa_get hxs hx
  rw [List.getElem?_map] at hd1
  obtain ⟨w, hw1, rfl⟩ := Option.map_eq_some_iff.mp hd1
  have wok := hok w (List.mem_of_getElem? hw1)
  wtm_at "s"
  refine k_ixL hb (by rw [Int.zero_add]; exact atI_nat hx) ?_
  wtm_at "s"
  refine ⟨_, _, rfl, N, w.1, w.2, hd, hd2, ?_⟩
  rw [decide_eq_true wok]
  wtm_at "s"
  exact ⟨rfl, _, rfl⟩
abbrev sp_must_be_ways (K : PySem.W.Frag) : Sp := fun vs H Q E => ∃ v0 v1, vs = [v0, v1] ∧ pr_must_be_ways K v0 v1 H Q E
theorem ok_must_be_ways (T : Txt K mg A) : FnOk P w K mg base CX0 3 A.a_must_be_ways A.d_must_be_ways ["net", "ways"] (sp_must_be_ways K) := by
  refine T.F_must_be_ways.ok sc_must_be_ways (fun vs H Q E h => by obtain ⟨v0, v1, rfl, _⟩ := h; rfl) (fun cdv A0 outer s H vs Q E hr h => ?_)
  obtain ⟨v0, v1, rfl, h⟩ := h
  exact ⟨t_must_be_ways K, (pss_one (ps_for PassesOwn.never rfl (pi_range1 (by rfl) T.z_range (pa_cons (pe_callB q_len (by rfl) T.z_len (by decide +kernel) (pa_cons (pv 1) pa_nil)) pa_nil)) (pg_name (i := 2) sc_must_be_ways.nd rfl (Or.inl rfl))
      (pss_one (ps_if (pt_not (pt_val (pe_call (ok_is_way T) (hr.mono (by decide)) (by rfl) T.g_is_way T.F_is_way.kp T.b_is_way .nil pass0 (pa_cons (pv 0) (pa_cons (pe_ix ix_list (pv 1) (pv 2) (fun _ _ => rfl)) pa_nil))))) (pss_one ps_never) pss_nil)))), pure_must_be_ways h⟩
def pr_look_ways (K : PySem.W.Frag) (v0 v1 : V) (H : Hp) (Q : VK) (_ : XK) : Prop := ∃ (N : Net) (ws : List (Int × Int)), Dp K H v0 N.d ∧ N.ok ∧ Dp K H v1 (dPairs ws) ∧ ws.length ≤ 10000 ∧ (∀ w ∈ ws, isWay N w.1 w.2) ∧ Q .non H
def t_look_ways (K : PySem.W.Frag) : TS :=
  (tSeq (tDrop (tCall (sp_look_net K) [] E0 (tCons (tVar 0) tNil)))
    (tDrop (tCall (sp_must_be_ways K) [] E0 (tCons (tVar 0) (tCons (tVar 1) tNil)))))
theorem pure_look_ways {v0 v1 : V} {H : Hp} {Q : VK} {E : XK} (h : pr_look_ways K v0 v1 H Q E) : t_look_ways K ⟨fun _ H' => Q .non H', Q, fun _ _ => False, fun _ _ => False⟩ [some v0, some v1] H := by
  obtain ⟨N, ws, hd, ok, hw, hz, hok, q⟩ := h
  unfold t_look_ways
  wtm_at "s"
  refine ⟨_, rfl, N, hd, ok, ?_⟩
  wtm_at "s"
  exact ⟨_, _, rfl, N, ws, hd, hw, hz, hok, q⟩
abbrev sp_look_ways (K : PySem.W.Frag) : Sp := fun vs H Q E => ∃ v0 v1, vs = [v0, v1] ∧ pr_look_ways K v0 v1 H Q E
theorem ok_look_ways (T : Txt K mg A) : FnOk P w K mg base CX0 4 A.a_look_ways A.d_look_ways ["net", "ways"] (sp_look_ways K) := by
  refine T.F_look_ways.ok sc_look_ways (fun vs H Q E h => by obtain ⟨v0, v1, rfl, _⟩ := h; rfl) (fun cdv A0 outer s H vs Q E hr h => ?_)
  obtain ⟨v0, v1, rfl, h⟩ := h
  exact ⟨t_look_ways K, (pss_cons (ps_expr (pe_call (ok_look_net T) (hr.mono (by decide)) (by rfl) T.g_look_net T.F_look_net.kp T.b_look_net .nil pass0 (pa_cons (pv 0) pa_nil)))
      (pss_one (ps_expr (pe_call (ok_must_be_ways T) (hr.mono (by decide)) (by rfl) T.g_must_be_ways T.F_must_be_ways.kp T.b_must_be_ways .nil pass0 (pa_cons (pv 0) (pa_cons (pv 1) pa_nil)))))), pure_look_ways h⟩
def pr_look_ring (K : PySem.W.Frag) (v0 : V) (H : Hp) (Q : VK) (_ : XK) : Prop := ∃ n, Dp K H v0 (Net.ring n).d ∧ (Net.ring n).ok ∧ Q .non H
def t_look_ring (K : PySem.W.Frag) : TS :=
  (tDrop (tCall (sp_must_be_kind K) [] E0 (tCons (tVar 0) (tCons (tC (.str (Str.ofString "ring"))) tNil))))
theorem pure_look_ring {v0 : V} {H : Hp} {Q : VK} {E : XK} (h : pr_look_ring K v0 H Q E) : t_look_ring K ⟨fun _ H' => Q .non H', Q, fun _ _ => False, fun _ _ => False⟩ [some v0] H := by
  obtain ⟨n, hd, ok, q⟩ := h
  unfold t_look_ring
  wtm_at "s"
  exact ⟨_, _, rfl, .ring n, hd, ok, rfl, q⟩
abbrev sp_look_ring (K : PySem.W.Frag) : Sp := fun vs H Q E => ∃ v0, vs = [v0] ∧ pr_look_ring K v0 H Q E
theorem ok_look_ring (T : Txt K mg A) : FnOk P w K mg base CX0 4 A.a_look_ring A.d_look_ring ["net"] (sp_look_ring K) := by
  refine T.F_look_ring.ok sc_look_ring (fun vs H Q E h => by obtain ⟨v0, rfl, _⟩ := h; rfl) (fun cdv A0 outer s H vs Q E hr h => ?_)
  obtain ⟨v0, rfl, h⟩ := h
  exact ⟨t_look_ring K, (pss_one (ps_expr (pe_call (ok_must_be_kind T) (hr.mono (by decide)) (by rfl) T.g_must_be_kind T.F_must_be_kind.kp T.b_must_be_kind .nil pass0 (pa_cons (pv 0) (pa_cons pe_str pa_nil))))), pure_look_ring h⟩
instance (N : Net) (a b t : Int) : Decidable (OnTie N a b t) := by
  cases N <;> unfold OnTie <;> infer_instance
def Net.ties : Net → Nat
  | .line n => (n - 1).toNat
  | .ring n => n.toNat
  | .tree ps => ps.length
/-- how many of the ways lie on a tie -/
def cnt (N : Net) (ws : List (Int × Int)) (t : Int) : Nat := (ws.filter fun w => decide (OnTie N w.1 w.2 t)).length
def loadsOf (N : Net) (ws : List (Int × Int)) : List Int := (List.range N.ties).map fun t => (cnt N ws (t : Nat) : Int)
theorem on_range {N : Net} (ok : N.ok) {a b t : Int} (hw : isWay N a b) (h : OnTie N a b t) : 0 ≤ t ∧ t < N.ties := by
  cases N with
  | line n =>
    obtain ⟨h1, h2⟩ := h
    obtain ⟨w1, w2, w3, w4, w5⟩ := hw
    have w4' : a < n := w4
    have w5' : b < n := w5
    show 0 ≤ t ∧ t < ((n - 1).toNat : Int)
    omega
  | ring n =>
    obtain ⟨h1, h2, _⟩ := h
    have : 3 ≤ n := ok.1
    show 0 ≤ t ∧ t < (n.toNat : Int)
    omega
  | tree ps =>
    obtain ⟨h1, h2, _⟩ := h
    exact ⟨h1, h2⟩
theorem ties_le {N : Net} (ok : N.ok) : N.ties ≤ 60 ∧ 1 ≤ N.ties := by
  cases N with
  | line n => obtain ⟨h1, h2⟩ := ok; show (n - 1).toNat ≤ 60 ∧ 1 ≤ (n - 1).toNat; omega
  | ring n => obtain ⟨h1, h2⟩ := ok; show n.toNat ≤ 60 ∧ 1 ≤ n.toNat; omega
  | tree ps => obtain ⟨h1, h2, _⟩ := ok; show ps.length ≤ 60 ∧ 1 ≤ ps.length; omega
theorem cnt_take {N : Net} {ws : List (Int × Int)} {i : Nat} {w : Int × Int} (h : ws[i]? = some w) (t : Int) : cnt N (ws.take (i + 1)) t = cnt N (ws.take i) t + if OnTie N w.1 w.2 t then 1 else 0 := by
  unfold cnt
  rw [List.take_add_one, h, List.filter_append, List.length_append]
  by_cases c : OnTie N w.1 w.2 t <;> simp [c]
def pr_ties_many (K : PySem.W.Frag) (v0 : V) (H : Hp) (Q : VK) (_ : XK) : Prop := ∃ N : Net, Dp K H v0 N.d ∧ N.ok ∧ Q (.int N.ties) H
def t_ties_many (K : PySem.W.Frag) : TS :=
  (tRet (tOp xSub (tCall (sp_places_of K) [] E0 (tCons (tVar 0) tNil)) (tCB rIntOf (tCons (tOp rNe (tOp (rIxT K) (tVar 0) (tC (.int 0))) (tC (.str (Str.ofString "ring")))) tNil))))
theorem pure_ties_many {v0 : V} {H : Hp} {Q : VK} {E : XK} (h : pr_ties_many K v0 H Q E) : t_ties_many K ⟨fun _ H' => Q .non H', Q, fun _ _ => False, fun _ _ => False⟩ [some v0] H := by
  obtain ⟨N, hd, ok, q⟩ := h
  obtain ⟨a, y, rfl, hs, hy⟩ := dp_net hd
  unfold t_ties_many
  wtm_at "s"
  refine ⟨_, rfl, N, hd, ?_⟩
  wtm_at "s"
  refine k_neS ?_
  cases N with
  | line n =>
    rw [show Net.kind (.line n) = Str.ofString "line" from rfl, s_lr]
    wtm_at "s"
    have : ((Net.line n).ties : Int) = n - 1 := by have := ok.1; show ((n - 1).toNat : Int) = _; omega
    rw [this] at q
    exact q
  | ring n =>
    rw [show Net.kind (.ring n) = Str.ofString "ring" from rfl, s_same]
    wtm_at "s"
    have : ((Net.ring n).ties : Int) = n - 0 := by have := ok.1; show ((n).toNat : Int) = _; omega
    rw [this] at q
    exact q
  | tree ps =>
    rw [show Net.kind (.tree ps) = Str.ofString "tree" from rfl, s_tr]
    wtm_at "s"
    have : ((Net.tree ps).ties : Int) = (ps.length + 1 : Int) - 1 := by show (ps.length : Int) = _; omega
    rw [this] at q
    exact q
abbrev sp_ties_many (K : PySem.W.Frag) : Sp := fun vs H Q E => ∃ v0, vs = [v0] ∧ pr_ties_many K v0 H Q E
theorem ok_ties_many (T : Txt K mg A) : FnOk P w K mg base CX0 2 A.a_ties_many A.d_ties_many ["net"] (sp_ties_many K) := by
  refine T.F_ties_many.ok sc_ties_many (fun vs H Q E h => by obtain ⟨v0, rfl, _⟩ := h; rfl) (fun cdv A0 outer s H vs Q E hr h => ?_)
  obtain ⟨v0, rfl, h⟩ := h
  exact ⟨t_ties_many K, (pss_one (ps_ret (pe_op op_sub (pe_call (ok_places_of T) (hr.mono (by decide)) (by rfl) T.g_places_of T.F_places_of.kp T.b_places_of .nil pass0 (pa_cons (pv 0) pa_nil)) (pe_callTy q_intB (by rfl) T.z_int (by decide +kernel) (pa_cons (pe_cmpR op_ne (pe_ix ix_tup (pv 0) pe_int (fun _ _ => rfl)) pe_str (nomark _)) pa_nil))))), pure_ties_many h⟩


def pr_counted (K : PySem.W.Frag) (v0 v1 : V) (H : Hp) (Q : VK) (_ : XK) : Prop := ∃ (N : Net) (ws : List (Int × Int)), Dp K H v0 N.d ∧ N.ok ∧ Dp K H v1 (dPairs ws) ∧ ws.length ≤ 10000 ∧ (∀ w ∈ ws, isWay N w.1 w.2) ∧
  ∀ p H', H p = none → Same H H' → H' p = some (.lst (List.map V.int (loadsOf N ws))) → Q (.ref p) H'
def t_counted (K : PySem.W.Frag) : TS :=
  (tSeq (tAsg (tOp rRep (tLst (tCons (tC (.int 0)) tNil)) (tCall (sp_ties_many K) [] E0 (tCons (tVar 0) tNil))) (gName 2))
    (tSeq (tFor (iList K (tVar 1)) (gName 3)
      (tFor (iList K (tCall (sp_ties_on K) [] E0 (tCons (tVar 0) (tCons (tVar 3) tNil)))) (gName 4)
      (xAugL K (tVar 2) (tVar 4) (tC (.int 1)))))
    (tRet (tVar 2))))
def fl (n : Nat) (f : Nat → Int) : List Int := (List.range n).map f
theorem fl_len (n : Nat) (f : Nat → Int) : (fl n f).length = n := by unfold fl; simp
theorem fl_get {n : Nat} {f : Nat → Int} {i : Nat} (h : i < n) : (fl n f).getD i 0 = f i := by
  unfold fl
  rw [List.getD_eq_getElem?_getD, List.getElem?_map, List.getElem?_range h]; rfl
theorem fl_set {n : Nat} {f : Nat → Int} {i : Nat} {v : Int} : (fl n f).set i v = fl n fun s => if s = i then v else f s := by
  unfold fl
  apply List.ext_getElem
  · simp
  · intro j h1 h2
    rw [List.getElem_set]
    simp only [List.getElem_map, List.getElem_range]
    by_cases c : i = j
    · rw [if_pos c, if_pos c.symm]
    · rw [if_neg c, if_neg fun e => c e.symm]
theorem fl_congr {n : Nat} {f g : Nat → Int} (h : ∀ i, i < n → f i = g i) : fl n f = fl n g := by
  unfold fl
  exact List.map_congr_left fun i hi => h i (List.mem_range.mp hi)
theorem pure_counted {v0 v1 : V} {H : Hp} {Q : VK} {E : XK} (h : pr_counted K v0 v1 H Q E) : t_counted K ⟨fun _ H' => Q .non H', Q, fun _ _ => False, fun _ _ => False⟩ [some v0, some v1, none, none, none] H := by
  obtain ⟨N, ws, hd, ok, hw, hz, hok, q⟩ := h
  obtain ⟨b, xs, rfl, hb, hxs⟩ := dp_list hw
  have hl := dpa_len hxs
  rw [List.length_map] at hl
  obtain ⟨t0, t1⟩ := ties_le ok
  unfold t_counted
  wtm_at "s"
  refine ⟨sz (by simp), fun z0 nz0 => ?_⟩
  have s1 := same_new (o := .lst [.int 0]) nz0
  have e1 := upd_same (H := H) (a := z0) (o := .lst [.int 0])
  generalize upd H z0 (.lst [.int 0]) = H1 at s1 e1 ⊢
  wtm_at "s"
  refine ⟨_, rfl, N, dp_same s1 hd, ok, ?_⟩
  refine k_rep e1 (by omega) (by omega) (by simp; omega) (fun fo nfo => ?_)
  have s2 := same_new (o := .lst (List.replicate (N.ties : Int).toNat [V.int 0]).flatten) nfo
  have e2 : upd H1 fo (.lst (List.replicate (N.ties : Int).toNat [V.int 0]).flatten) fo = some (.lst (List.map V.int (fl N.ties fun t => (cnt N (ws.take 0) (t : Nat) : Int)))) := by
    rw [upd_same]
    have : ∀ n : Nat, (List.replicate n [V.int 0]).flatten = List.map V.int (fl n fun t => (cnt N (ws.take 0) (t : Nat) : Int)) := fun n => by
      unfold fl
      rw [List.map_map]
      apply List.ext_getElem
      · simp
      · intro i h1 h2
        simp [cnt]
    rw [Int.toNat_natCast, this]
  generalize upd H1 fo (.lst (List.replicate (N.ties : Int).toNat [V.int 0]).flatten) = H2 at s2 e2 ⊢
  have nfo0 : H fo = none := s1.free nfo
  have s02 := s1.trans s2
  wtm_at "s"
  refine forL (s02.seq hb) (fun i σ' H' => Same H H' ∧ H' fo = some (.lst (List.map V.int (fl N.ties fun t => (cnt N (ws.take i) (t : Nat) : Int)))) ∧ ∃ k3 k4, σ' = [some v0, some (.ref b), some (.ref fo), k3, k4]) ⟨s02, e2, none, none, rfl⟩ (fun i σ' H' _ e => e.1.seq hb) ?_ ?_
  · rintro i x σ' H' hx ⟨sm, hf, k3, k4, rfl⟩
    obtain ⟨d, hd1, hd2⟩ := dpa_get hxs hx
    rw [List.getElem?_map] at hd1
    obtain ⟨w, hw1, rfl⟩ := Option.map_eq_some_iff.mp hd1
    have wok := hok w (List.mem_of_getElem? hw1)
    have ct := cnt_take (N := N) hw1
    wtm_at "s"
    refine ⟨_, _, rfl, N, w.1, w.2, dp_same sm hd, dp_same sm hd2, ok, wok, fun tl ns H3 ntl s3 htl tt => ?_⟩
    have ntf : tl ≠ fo := fun e => by rw [e, hf] at ntl; cases ntl
    have inr : ∀ t ∈ ns, 0 ≤ t ∧ t < N.ties := fun t ht => on_range ok wok ((tt.mem t).mp ht)
    refine forL (sl htl) (fun j σ' H' => Same H H' ∧ H' tl = some (.lst (List.map V.int ns)) ∧ H' fo = some (.lst (List.map V.int (fl N.ties fun t => (cnt N (ws.take i) (t : Nat) : Int) + if (t : Int) ∈ ns.take j then 1 else 0))) ∧ ∃ k4, σ' = [some v0, some (.ref b), some (.ref fo), some x, k4])
      ⟨sm.trans s3, htl, by rw [s3 _ _ hf]; simp, k4, rfl⟩ (fun i σ' H' _ e => sl e.2.1) ?_ ?_
    · rintro j y σ' H4 hy ⟨s4, htl4, hf4, k4, rfl⟩
      rw [List.getElem?_map] at hy
      obtain ⟨t, ht, rfl⟩ := Option.map_eq_some_iff.mp hy
      obtain ⟨r0, r1⟩ := inr t (List.mem_of_getElem? ht)
      wtm_at "s"
      refine k_getI (sl hf4) r0 (by rw [fl_len]; exact r1) ?_
      wtm_at "s"
      refine k_setI hf4 r0 (by rw [fl_len]; exact r1) ?_
      rw [fl_get (by omega), fl_set]
      refine ⟨same_mut s4 nfo0, by rw [upd_ne ntf]; exact htl4, ?_, _, rfl⟩
      rw [upd_same]
      congr 3
      refine fl_congr fun s hs => ?_
      have nin : t ∉ ns.take j := fun z => by
        obtain ⟨m, hm, e⟩ := List.mem_take_iff_getElem.mp z
        have lt := List.pairwise_iff_getElem.mp tt.srt m j (by omega) (List.getElem?_eq_some_iff.mp ht).1 (by omega)
        rw [e, (List.getElem?_eq_some_iff.mp ht).2] at lt
        omega
      rw [List.take_add_one, ht]
      by_cases c : s = t.toNat
      · subst c
        have e : ((t.toNat : Nat) : Int) = t := by omega
        rw [if_pos rfl, e, if_neg nin, if_pos (by simp)]
        omega
      · have c' : ¬ (s : Int) = t := fun e => c (by omega)
        rw [if_neg c]
        congr 1
        simp [c']
    · rintro σ' H4 ⟨s4, htl4, hf4, k4, rfl⟩
      refine ⟨s4, ?_, _, _, rfl⟩
      rw [hf4]
      congr 3
      refine fl_congr fun s hs => ?_
      rw [ct, List.length_map, List.take_length]
      by_cases c : OnTie N w.1 w.2 s
      · rw [if_pos c, if_pos ((tt.mem _).mpr c)]; omega
      · rw [if_neg c, if_neg fun z => c ((tt.mem _).mp z)]; omega
  · rintro σ' H' ⟨sm, hf, k3, k4, rfl⟩
    rw [hl, List.take_length] at hf
    wtm_at "s"
    exact q fo H' nfo0 sm hf
abbrev sp_counted (K : PySem.W.Frag) : Sp := fun vs H Q E => ∃ v0 v1, vs = [v0, v1] ∧ pr_counted K v0 v1 H Q E
theorem ok_counted (T : Txt K mg A) : FnOk P w K mg base CX0 3 A.a_counted A.d_counted ["net", "ways"] (sp_counted K) := by
  refine T.F_counted.ok sc_counted (fun vs H Q E h => by obtain ⟨v0, v1, rfl, _⟩ := h; rfl) (fun cdv A0 outer s H vs Q E hr h => ?_)
  obtain ⟨v0, v1, rfl, h⟩ := h
  exact ⟨t_counted K, (pss_cons (ps_set (i := 2) sc_counted.nd rfl (Or.inl rfl) (pe_op op_rep (pe_lst (pa_cons pe_int pa_nil)) (pe_call (ok_ties_many T) (hr.mono (by decide)) (by rfl) T.g_ties_many T.F_ties_many.kp T.b_ties_many .nil pass0 (pa_cons (pv 0) pa_nil))))
      (pss_cons (ps_for PassesOwn.never rfl (pi_list (pv 1)) (pg_name (i := 3) sc_counted.nd rfl (Or.inl rfl))
      (pss_one (ps_for PassesOwn.never rfl (pi_list (pe_call (ok_ties_on T) (hr.mono (by decide)) (by rfl) T.g_ties_on T.F_ties_on.kp T.b_ties_on .nil pass0 (pa_cons (pv 0) (pa_cons (pv 3) pa_nil)))) (pg_name (i := 4) sc_counted.nd rfl (Or.inl rfl))
      (pss_one (q_augL (pv 2) (pv 4) pe_int)))))
      (pss_one (ps_ret (pv 2))))), pure_counted h⟩
def pr_loads (K : PySem.W.Frag) (v0 v1 : V) (H : Hp) (Q : VK) (_ : XK) : Prop := ∃ (N : Net) (ws : List (Int × Int)), Dp K H v0 N.d ∧ N.ok ∧ Dp K H v1 (dPairs ws) ∧ ws.length ≤ 10000 ∧ (∀ w ∈ ws, isWay N w.1 w.2) ∧
  ∀ p H', H p = none → Same H H' → H' p = some (.lst (List.map V.int (loadsOf N ws))) → Q (.ref p) H'
def t_loads (K : PySem.W.Frag) : TS :=
  (tSeq (tDrop (tCall (sp_look_ways K) [] E0 (tCons (tVar 0) (tCons (tVar 1) tNil))))
    (tRet (tCall (sp_counted K) [] E0 (tCons (tVar 0) (tCons (tVar 1) tNil)))))
theorem pure_loads {v0 v1 : V} {H : Hp} {Q : VK} {E : XK} (h : pr_loads K v0 v1 H Q E) : t_loads K ⟨fun _ H' => Q .non H', Q, fun _ _ => False, fun _ _ => False⟩ [some v0, some v1] H := by
  obtain ⟨N, ws, hd, ok, hw, hz, hok, q⟩ := h
  unfold t_loads
  wtm_at "s"
  refine ⟨_, _, rfl, N, ws, hd, ok, hw, hz, hok, ?_⟩
  wtm_at "s"
  exact ⟨_, _, rfl, N, ws, hd, ok, hw, hz, hok, q⟩
abbrev sp_loads (K : PySem.W.Frag) : Sp := fun vs H Q E => ∃ v0 v1, vs = [v0, v1] ∧ pr_loads K v0 v1 H Q E
theorem ok_loads (T : Txt K mg A) : FnOk P w K mg base CX0 5 A.a_loads A.d_loads ["net", "ways"] (sp_loads K) := by
  refine T.F_loads.ok sc_loads (fun vs H Q E h => by obtain ⟨v0, v1, rfl, _⟩ := h; rfl) (fun cdv A0 outer s H vs Q E hr h => ?_)
  obtain ⟨v0, v1, rfl, h⟩ := h
  exact ⟨t_loads K, (pss_cons (ps_expr (pe_call (ok_look_ways T) (hr.mono (by decide)) (by rfl) T.g_look_ways T.F_look_ways.kp T.b_look_ways .nil pass0 (pa_cons (pv 0) (pa_cons (pv 1) pa_nil))))
      (pss_one (ps_ret (pe_call (ok_counted T) (hr.mono (by decide)) (by rfl) T.g_counted T.F_counted.kp T.b_counted .nil pass0 (pa_cons (pv 0) (pa_cons (pv 1) pa_nil)))))), pure_loads h⟩
theorem loads_len (N : Net) (ws : List (Int × Int)) : (loadsOf N ws).length = N.ties := by unfold loadsOf; simp
def pr_load (K : PySem.W.Frag) (v0 v1 : V) (H : Hp) (Q : VK) (_ : XK) : Prop := ∃ (N : Net) (ws : List (Int × Int)), Dp K H v0 N.d ∧ N.ok ∧ Dp K H v1 (dPairs ws) ∧ ws.length ≤ 10000 ∧ (∀ w ∈ ws, isWay N w.1 w.2) ∧
  ∀ m H', Same H H' → m ∈ loadsOf N ws → (∀ y ∈ loadsOf N ws, y ≤ m) → Q (.int m) H'
def t_load (K : PySem.W.Frag) : TS :=
  (tRet (tCB (rMax K) (tCons (tCall (sp_loads K) [] E0 (tCons (tVar 0) (tCons (tVar 1) tNil))) tNil)))
theorem pure_load {v0 v1 : V} {H : Hp} {Q : VK} {E : XK} (h : pr_load K v0 v1 H Q E) : t_load K ⟨fun _ H' => Q .non H', Q, fun _ _ => False, fun _ _ => False⟩ [some v0, some v1] H := by
  obtain ⟨N, ws, hd, ok, hw, hz, hok, q⟩ := h
  unfold t_load
  wtm_at "s"
  refine ⟨_, _, rfl, N, ws, hd, ok, hw, hz, hok, fun p H1 np s1 hp => ?_⟩
  wtm_at "s"
  refine k_max (sl hp) (by rw [loads_len]; have := (ties_le ok).2; omega) (fun m h1 h2 => ?_)
  exact q m H1 s1 h1 h2
abbrev sp_load (K : PySem.W.Frag) : Sp := fun vs H Q E => ∃ v0 v1, vs = [v0, v1] ∧ pr_load K v0 v1 H Q E
theorem ok_load (T : Txt K mg A) : FnOk P w K mg base CX0 6 A.a_load A.d_load ["net", "ways"] (sp_load K) := by
  refine T.F_load.ok sc_load (fun vs H Q E h => by obtain ⟨v0, v1, rfl, _⟩ := h; rfl) (fun cdv A0 outer s H vs Q E hr h => ?_)
  obtain ⟨v0, v1, rfl, h⟩ := h
  exact ⟨t_load K, (pss_one (ps_ret (pe_callB (cr_max (by rfl)) (by rfl) T.z_max (by decide +kernel) (pa_cons (pe_call (ok_loads T) (hr.mono (by decide)) (by rfl) T.g_loads T.F_loads.kp T.b_loads .nil pass0 (pa_cons (pv 0) (pa_cons (pv 1) pa_nil))) pa_nil)))), pure_load h⟩
/-- some pairs with a property -/
def Pq (K : PySem.W.Frag) (H : Hp) (vs : List V) (n : Nat) (φ : Int × Int → Prop) : Prop := ∃ qs : List (Int × Int), DpAll K H vs (qs.map dPair) ∧ qs.length = n ∧ ∀ p ∈ qs, φ p
section
variable {H H' : Hp} {vs us : List V} {n m : Nat} {φ ψ : Int × Int → Prop}
theorem Pq.same (h : Pq K H vs n φ) (s : Same H H') : Pq K H' vs n φ := by
  obtain ⟨qs, h1, h2, h3⟩ := h
  exact ⟨qs, dpa_same s h1, h2, h3⟩
theorem Pq.len (h : Pq K H vs n φ) : vs.length = n := by
  obtain ⟨qs, h1, h2, _⟩ := h
  rw [dpa_len h1, List.length_map]; exact h2
theorem Pq.imp (h : Pq K H vs n φ) (hi : ∀ p, φ p → ψ p) : Pq K H vs n ψ := by
  obtain ⟨qs, h1, h2, h3⟩ := h
  exact ⟨qs, h1, h2, fun p hp => hi p (h3 p hp)⟩
theorem Pq.nil : Pq K H [] 0 φ := ⟨[], .nil, rfl, fun p z => by cases z⟩
theorem Pq.app (h : Pq K H vs n φ) (h' : Pq K H us m φ) : Pq K H (vs ++ us) (n + m) φ := by
  obtain ⟨qs, h1, h2, h3⟩ := h
  obtain ⟨rs, g1, g2, g3⟩ := h'
  refine ⟨qs ++ rs, by rw [List.map_append]; exact dpa_app h1 g1, by rw [List.length_append, h2, g2], fun p hp => ?_⟩
  rcases List.mem_append.mp hp with hp | hp
  · exact h3 p hp
  · exact g3 p hp
theorem Pq.one {v : V} {p : Int × Int} (d : Dp K H v (dPair p)) (hp : φ p) : Pq K H [v] 1 φ := ⟨[p], .cons d .nil, rfl, fun q hq => by rw [List.mem_singleton.mp hq]; exact hp⟩
theorem Pq.rep {a : Addr} {p : Int × Int} (d : Dp K H (.ref a) (dPair p)) (hp : φ p) (k : Nat) : Pq K H (List.replicate k (V.ref a)) k φ := by
  refine ⟨List.replicate k p, ?_, by simp, fun q hq => by rw [List.eq_of_mem_replicate hq]; exact hp⟩
  induction k with
  | zero => exact .nil
  | succ k ih => exact .cons d ih
theorem Pq.take (h : Pq K H vs n φ) (k : Nat) : Pq K H (vs.take k) (min k n) φ := by
  obtain ⟨qs, h1, h2, h3⟩ := h
  exact ⟨qs.take k, by rw [List.map_take]; exact dpa_take k h1, by rw [List.length_take, h2], fun p hp => h3 p (List.mem_of_mem_take hp)⟩
end
theorem rep1 (n : Nat) (p : V) : (List.replicate n [p]).flatten = List.replicate n p := by
  induction n with
  | zero => rfl
  | succ n ih => rw [List.replicate_succ, List.flatten_cons, ih]; rfl
/-- new pairs, each by itself, out of sight of some places -/
theorem rows_pq {H : Hp} {S : List Addr} {rs : List Addr} {f : Nat → Int × Int} {φ : Int × Int → Prop} (rows : ∀ (j : Nat) r, rs[j]? = some r → H r = some (.tup [.int (f j).1, .int (f j).2])) (np : ∀ r ∈ rs, r ∉ S) (hφ : ∀ j, j < rs.length → φ (f j)) : Pq K (hid S H) (rs.map V.ref) rs.length φ := by
  refine ⟨(List.range rs.length).map f, ?_, by simp, fun p hp => ?_⟩
  · have key : ∀ (rs : List Addr) (ds : List (Int × Int)), ds.length = rs.length → (∀ (j : Nat) r p, rs[j]? = some r → ds[j]? = some p → H r = some (.tup [.int p.1, .int p.2])) → (∀ r ∈ rs, r ∉ S) → DpAll K (hid S H) (rs.map V.ref) (ds.map dPair) := by
      intro rs
      induction rs with
      | nil => intro ds h _ _; cases ds with
        | nil => exact .nil
        | cons y r => simp at h
      | cons r t ih => intro ds h rows np; cases ds with
        | nil => simp at h
        | cons y ds =>
          refine .cons (dp_of_pair (stp ?_)) (ih ds (by simpa using h) (fun j r y hr hy => rows (j + 1) r y (by simpa using hr) (by simpa using hy)) fun r hr => np r (List.mem_cons_of_mem _ hr))
          rw [hid_ne (np r List.mem_cons_self)]
          exact rows 0 r y rfl rfl
    refine key rs _ (by simp) (fun j r p hr hp => ?_) np
    have hj : j < rs.length := (List.getElem?_eq_some_iff.mp hr).1
    rw [List.getElem?_map, List.getElem?_range hj] at hp
    cases hp
    exact rows j r hr
  · obtain ⟨j, hj, rfl⟩ := List.mem_map.mp hp
    exact hφ j (List.mem_range.mp hj)


def pr_law_mix (K : PySem.W.Frag) (v0 v1 : V) (H : Hp) (Q : VK) (_ : XK) : Prop := ∃ x k : Int, v0 = .int x ∧ v1 = .int k ∧ 0 ≤ x ∧ x < 2147483629 ∧ 0 ≤ k ∧ k < 10000000 ∧ ∀ r, 0 ≤ r → r < 2147483587 → Q (.int r) H
def t_law_mix (K : PySem.W.Frag) : TS :=
  (tSeq (tAsg (tOp xMod (tOp xMul (tOp xAdd (tOp xAdd (tOp xMul (tVar 0) (tVar 0)) (tOp xMul (tVar 1) (tVar 0))) (tOp xMul (tOp xMul (tC (.int 7)) (tVar 1)) (tVar 1))) (tC (.int 1103515245))) (tC (.int 2147483629))) (gName 2))
    (tRet (tOp xMod (tOp xMul (tVar 2) (tVar 2)) (tC (.int 2147483587)))))
theorem pure_law_mix {v0 v1 : V} {H : Hp} {Q : VK} {E : XK} (h : pr_law_mix K v0 v1 H Q E) : t_law_mix K ⟨fun _ H' => Q .non H', Q, fun _ _ => False, fun _ _ => False⟩ [some v0, some v1, none] H := by
  obtain ⟨x, k, rfl, rfl, x0, x1, k0, k1, q⟩ := h
  unfold t_law_mix
  wtm_at "s"
  exact q _ (Int.emod_nonneg _ (by decide)) (Int.emod_lt_of_pos _ (by decide))
abbrev sp_law_mix (K : PySem.W.Frag) : Sp := fun vs H Q E => ∃ v0 v1, vs = [v0, v1] ∧ pr_law_mix K v0 v1 H Q E
theorem ok_law_mix (T : Txt K mg A) : FnOk P w K mg base CX0 1 A.a_law_mix A.d_law_mix ["_law_number", "_law_k"] (sp_law_mix K) := by
  refine T.F_law_mix.ok sc_law_mix (fun vs H Q E h => by obtain ⟨v0, v1, rfl, _⟩ := h; rfl) (fun cdv A0 outer s H vs Q E hr h => ?_)
  obtain ⟨v0, v1, rfl, h⟩ := h
  exact ⟨t_law_mix K, (pss_cons (ps_set (i := 2) sc_law_mix.nd rfl (Or.inl rfl) (pe_op op_mod (pe_op op_mul (pe_op op_add (pe_op op_add (pe_op op_mul (pv 0) (pv 0)) (pe_op op_mul (pv 1) (pv 0))) (pe_op op_mul (pe_op op_mul pe_int (pv 1)) (pv 1))) pe_int) pe_int))
      (pss_one (ps_ret (pe_op op_mod (pe_op op_mul (pv 2) (pv 2)) pe_int)))), pure_law_mix h⟩
def pr_law_left (K : PySem.W.Frag) (v0 : V) (H : Hp) (Q : VK) (_ : XK) : Prop := ∃ x : Int, v0 = .int x ∧ ∀ p H', H p = none → Same H H' → Le H' p 0 → Q (.ref p) H'
def t_law_left (K : PySem.W.Frag) : TS :=
  (tSeq (tIfS (tTest (tOp xLt (tVar 0) (tOp xPow (tC (.int 10)) (tC (.int 18))))) (tRet (tLst (tCons (tOp xMod (tVar 0) (tC (.int 2147483629))) (tCons (tC (.int 0)) (tCons (tC (.int 0)) tNil))))) tNext)
    (tRet (tLst (tCons (tOp xSub (tVar 0) (tOp xPow (tC (.int 10)) (tC (.int 18)))) (tCons (tC (.int 1)) (tCons (tC (.int 0)) tNil))))))
theorem pure_law_left {v0 : V} {H : Hp} {Q : VK} {E : XK} (h : pr_law_left K v0 H Q E) : t_law_left K ⟨fun _ H' => Q .non H', Q, fun _ _ => False, fun _ _ => False⟩ [some v0] H := by
  obtain ⟨x, rfl, q⟩ := h
  unfold t_law_left
  wtm_at "s"
  refine k_it (fun c => ?_) (fun c => ?_)
  · wtm_at "s"
    refine ⟨sz (by simp), fun p np => ?_⟩
    exact q p _ np (same_new np) ⟨⟨_, _, upd_same, fun _ => ⟨Int.emod_nonneg _ (by decide), Int.emod_lt_of_pos _ (by decide)⟩⟩, by decide⟩
  · wtm_at "s"
    refine ⟨sz (by simp), fun p np => ?_⟩
    exact q p _ np (same_new np) ⟨⟨_, _, upd_same, fun z => absurd z (by decide)⟩, by decide⟩
abbrev sp_law_left (K : PySem.W.Frag) : Sp := fun vs H Q E => ∃ v0, vs = [v0] ∧ pr_law_left K v0 H Q E
theorem ok_law_left (T : Txt K mg A) : FnOk P w K mg base CX0 1 A.a_law_left A.d_law_left ["_law_cell"] (sp_law_left K) := by
  refine T.F_law_left.ok sc_law_left (fun vs H Q E h => by obtain ⟨v0, rfl, _⟩ := h; rfl) (fun cdv A0 outer s H vs Q E hr h => ?_)
  obtain ⟨v0, rfl, h⟩ := h
  exact ⟨t_law_left K, (pss_cons (ps_if (pt_cmpR op_lt (pv 0) (pe_op op_pow pe_int pe_int) (nomark _)) (pss_one (ps_ret (pe_lst (pa_cons (pe_op op_mod (pv 0) pe_int) (pa_cons pe_int (pa_cons pe_int pa_nil)))))) pss_nil)
      (pss_one (ps_ret (pe_lst (pa_cons (pe_op op_sub (pv 0) (pe_op op_pow pe_int pe_int)) (pa_cons pe_int (pa_cons pe_int pa_nil))))))), pure_law_left h⟩
def pr_law_draw (K : PySem.W.Frag) (v0 v1 : V) (H : Hp) (Q : VK) (_ : XK) : Prop := ∃ (pu : Addr) (k m : Int), v0 = .ref pu ∧ v1 = .int m ∧ Le H pu k ∧ k < 1000000 ∧ 0 < m ∧ m < 2 ^ 200 ∧ ∀ r H', 0 ≤ r → r < m → Le H' pu (k + 1) → Same (hid [pu] H) (hid [pu] H') → Q (.int r) H'
def t_law_draw (K : PySem.W.Frag) : TS :=
  (tSeq (tAsg (tOp xAdd (tOp (rIxL K) (tVar 0) (tC (.int 2))) (tC (.int 1))) (gSub (tVar 0) (tC (.int 2)) rSetL))
    (tSeq (tIfS (tTest (tOp rEq (tOp (rIxL K) (tVar 0) (tC (.int 1))) (tC (.int 0)))) (tSeq (tAsg (tCall (sp_law_mix K) [] E0 (tCons (tOp (rIxL K) (tVar 0) (tC (.int 0))) (tCons (tOp (rIxL K) (tVar 0) (tC (.int 2))) tNil))) (gName 2))
    (tSeq (tIfS (tTest (tOp xGt (tVar 1) (tOp xPow (tC (.int 10)) (tC (.int 9))))) (tRet (tOp xMod (tOp xMul (tVar 2) (tOp xAdd (tOp xPow (tCall (sp_law_mix K) [] E0 (tCons (tOp (rIxL K) (tVar 0) (tC (.int 0))) (tCons (tOp xAdd (tOp (rIxL K) (tVar 0) (tC (.int 2))) (tC (.int 500))) tNil))) (tC (.int 3))) (tC (.int 1)))) (tVar 1))) tNext)
    (tRet (tOp xMod (tOp xMod (tOp xMul (tVar 2) (tOp xAdd (tVar 2) (tC (.int 2)))) (tC (.int 2147483579))) (tVar 1))))) tNext)
    (tSeq (tAsg (tOp xMod (tOp (rIxL K) (tVar 0) (tC (.int 0))) (tVar 1)) (gName 3))
    (tSeq (tAsg (tOp xDivW (tOp (rIxL K) (tVar 0) (tC (.int 0))) (tVar 1)) (gSub (tVar 0) (tC (.int 0)) rSetL))
    (tRet (tVar 3))))))
theorem pure_law_draw {v0 v1 : V} {H : Hp} {Q : VK} {E : XK} (h : pr_law_draw K v0 v1 H Q E) : t_law_draw K ⟨fun _ H' => Q .non H', Q, fun _ _ => False, fun _ _ => False⟩ [some v0, some v1, none, none] H := by
  obtain ⟨pu, k, m, rfl, rfl, hL, k1, m0, m1, q⟩ := h
  obtain ⟨⟨x, f, hp, hx⟩, k0⟩ := hL
  unfold t_law_draw
  wtm_at "s"
  refine k_ixL (sl hp) rfl ?_
  wtm_at "s"
  refine k_setL hp (j := 2) rfl ?_
  have e1 : upd H pu (.lst [.int x, .int f, .int (k + 1)]) pu = some (.lst [.int x, .int f, .int (k + 1)]) := upd_same
  have S1 : Same (hid [pu] H) (hid [pu] (upd H pu (.lst [.int x, .int f, .int (k + 1)]))) := same_hid_upd (Same.refl _) (by simp)
  rw [show [V.int x, V.int f, V.int k].set 2 (V.int (k + 1)) = [.int x, .int f, .int (k + 1)] from rfl]
  generalize upd H pu (.lst [.int x, .int f, .int (k + 1)]) = H1 at e1 S1 ⊢
  wtm_at "s"
  refine k_ixL (sl e1) rfl ?_
  wtm_at "s"
  refine k_it (fun c => ?_) (fun c => ?_)
  · obtain ⟨x0, x1⟩ := hx c
    have L1 : Le H1 pu (k + 1) := ⟨⟨x, f, e1, hx⟩, by omega⟩
    wtm_at "s"
    refine k_ixL (sl e1) rfl ?_
    wtm_at "s"
    refine k_ixL (sl e1) rfl ?_
    wtm_at "s"
    refine ⟨_, _, rfl, x, k + 1, rfl, rfl, x0, x1, by omega, by omega, fun r r0 r1 => ?_⟩
    wtm_at "s"
    refine k_it (fun c2 => ?_) (fun c2 => ?_)
    · wtm_at "s"
      refine k_ixL (sl e1) rfl ?_
      wtm_at "s"
      refine k_ixL (sl e1) rfl ?_
      wtm_at "s"
      refine ⟨_, _, rfl, x, k + 1 + 500, rfl, rfl, x0, x1, by omega, by omega, fun r2 r20 r21 => ?_⟩
      wtm_at "s"
      refine k_pow ⟨by decide, by decide, by omega⟩ ?_
      wtm_at "s"
      exact q _ _ (Int.emod_nonneg _ (by omega)) (Int.emod_lt_of_pos _ m0) L1 S1
    · wtm_at "s"
      exact q _ _ (Int.emod_nonneg _ (by omega)) (Int.emod_lt_of_pos _ m0) L1 S1
  · wtm_at "s"
    refine k_ixL (sl e1) rfl ?_
    wtm_at "s"
    refine k_ixL (sl e1) rfl ?_
    wtm_at "s"
    refine k_divW (wide_div m0 (b := 201) (by omega) (by decide) (by decide)) ?_
    wtm_at "s"
    refine k_setL e1 (j := 0) rfl ?_
    wtm_at "s"
    exact q _ _ (Int.emod_nonneg _ (by omega)) (Int.emod_lt_of_pos _ m0) ⟨⟨x / m, f, upd_same, fun z => absurd z c⟩, by omega⟩ (same_hid_upd S1 (by simp))
abbrev sp_law_draw (K : PySem.W.Frag) : Sp := fun vs H Q E => ∃ v0 v1, vs = [v0, v1] ∧ pr_law_draw K v0 v1 H Q E
theorem ok_law_draw (T : Txt K mg A) : FnOk P w K mg base CX0 2 A.a_law_draw A.d_law_draw ["_law_left_here", "_law_base"] (sp_law_draw K) := by
  refine T.F_law_draw.ok sc_law_draw (fun vs H Q E h => by obtain ⟨v0, v1, rfl, _⟩ := h; rfl) (fun cdv A0 outer s H vs Q E hr h => ?_)
  obtain ⟨v0, v1, rfl, h⟩ := h
  exact ⟨t_law_draw K, (pss_cons (ps_asg (pe_op op_add (pe_ix ix_list (pv 0) pe_int (fun _ _ => rfl)) pe_int) (pg_sub (pv 0) pe_int set_list))
      (pss_cons (ps_if (pt_cmpR op_eq (pe_ix ix_list (pv 0) pe_int (fun _ _ => rfl)) pe_int (nomark _)) (pss_cons (ps_set (i := 2) sc_law_draw.nd rfl (Or.inl rfl) (pe_call (ok_law_mix T) (hr.mono (by decide)) (by rfl) T.g_law_mix T.F_law_mix.kp T.b_law_mix .nil pass0 (pa_cons (pe_ix ix_list (pv 0) pe_int (fun _ _ => rfl)) (pa_cons (pe_ix ix_list (pv 0) pe_int (fun _ _ => rfl)) pa_nil))))
      (pss_cons (ps_if (pt_cmpR op_gt (pv 1) (pe_op op_pow pe_int pe_int) (nomark _)) (pss_one (ps_ret (pe_op op_mod (pe_op op_mul (pv 2) (pe_op op_add (pe_op op_pow (pe_call (ok_law_mix T) (hr.mono (by decide)) (by rfl) T.g_law_mix T.F_law_mix.kp T.b_law_mix .nil pass0 (pa_cons (pe_ix ix_list (pv 0) pe_int (fun _ _ => rfl)) (pa_cons (pe_op op_add (pe_ix ix_list (pv 0) pe_int (fun _ _ => rfl)) pe_int) pa_nil))) pe_int) pe_int)) (pv 1)))) pss_nil)
      (pss_one (ps_ret (pe_op op_mod (pe_op op_mod (pe_op op_mul (pv 2) (pe_op op_add (pv 2) pe_int)) pe_int) (pv 1)))))) pss_nil)
      (pss_cons (ps_set (i := 3) sc_law_draw.nd rfl (Or.inl rfl) (pe_op op_mod (pe_ix ix_list (pv 0) pe_int (fun _ _ => rfl)) (pv 1)))
      (pss_cons (ps_asg (pe_op op_fdivW (pe_ix ix_list (pv 0) pe_int (fun _ _ => rfl)) (pv 1)) (pg_sub (pv 0) pe_int set_list))
      (pss_one (ps_ret (pv 3))))))), pure_law_draw h⟩
def pr_law_way (K : PySem.W.Frag) (v0 v1 : V) (H : Hp) (Q : VK) (_ : XK) : Prop := ∃ (pu : Addr) (k m : Int), v0 = .ref pu ∧ v1 = .int m ∧ Le H pu k ∧ k < 900000 ∧ 2 ≤ m ∧ m < 2 ^ 100 ∧
  ∀ p a b H', H p = none → p ∉ [pu] → Le H' pu (k + 2) → Same (hid [pu] H) (hid [pu] H') → H' p = some (.tup [.int a, .int b]) → a ≠ b → 0 ≤ a → a < m → 0 ≤ b → b < m → Q (.ref p) H'
def t_law_way (K : PySem.W.Frag) : TS :=
  (tSeq (tAsg (tCall (sp_law_draw K) [] E0 (tCons (tVar 0) (tCons (tVar 1) tNil))) (gName 2))
    (tSeq (tAsg (tCall (sp_law_draw K) [] E0 (tCons (tVar 0) (tCons (tOp xSub (tVar 1) (tC (.int 1))) tNil))) (gName 3))
    (tRet (tTup (tCons (tVar 2) (tCons (tOp xAdd (tVar 3) (tCB rIntOf (tCons (tOp xGe (tVar 3) (tVar 2)) tNil))) tNil))))))
theorem pure_law_way {v0 v1 : V} {H : Hp} {Q : VK} {E : XK} (h : pr_law_way K v0 v1 H Q E) : t_law_way K ⟨fun _ H' => Q .non H', Q, fun _ _ => False, fun _ _ => False⟩ [some v0, some v1, none, none] H := by
  obtain ⟨pu, k, m, rfl, rfl, hL, k1, m0, m1, q⟩ := h
  unfold t_law_way
  wtm_at "s"
  refine ⟨_, _, rfl, pu, k, m, rfl, rfl, hL, by omega, by omega, by omega, fun r H1 r0 r1 L1 S1 => ?_⟩
  wtm_at "s"
  refine ⟨_, _, rfl, pu, k + 1, m - 1, rfl, rfl, L1, by omega, by omega, by omega, fun r2 H2 r20 r21 L2 S2 => ?_⟩
  wtm_at "s"
  refine ⟨sz (by simp), fun p np => ?_⟩
  have np' := L2.fresh np
  have S3 := S1.trans S2
  have e : (if decide (r ≤ r2) = true then (1 : Int) else 0) = if r ≤ r2 then 1 else 0 := by simp
  refine q p r _ _ (fresh_hid S3 np np') np' (show Le _ pu (k + 2) from (show k + 1 + 1 = k + 2 by omega) ▸ L2.upd np') (S3.trans (same_hid_new np)) upd_same ?_ r0 r1 ?_ ?_
  all_goals rw [e]; split <;> omega
abbrev sp_law_way (K : PySem.W.Frag) : Sp := fun vs H Q E => ∃ v0 v1, vs = [v0, v1] ∧ pr_law_way K v0 v1 H Q E
theorem ok_law_way (T : Txt K mg A) : FnOk P w K mg base CX0 3 A.a_law_way A.d_law_way ["_law_left_here", "_law_many"] (sp_law_way K) := by
  refine T.F_law_way.ok sc_law_way (fun vs H Q E h => by obtain ⟨v0, v1, rfl, _⟩ := h; rfl) (fun cdv A0 outer s H vs Q E hr h => ?_)
  obtain ⟨v0, v1, rfl, h⟩ := h
  exact ⟨t_law_way K, (pss_cons (ps_set (i := 2) sc_law_way.nd rfl (Or.inl rfl) (pe_call (ok_law_draw T) (hr.mono (by decide)) (by rfl) T.g_law_draw T.F_law_draw.kp T.b_law_draw .nil pass0 (pa_cons (pv 0) (pa_cons (pv 1) pa_nil))))
      (pss_cons (ps_set (i := 3) sc_law_way.nd rfl (Or.inl rfl) (pe_call (ok_law_draw T) (hr.mono (by decide)) (by rfl) T.g_law_draw T.F_law_draw.kp T.b_law_draw .nil pass0 (pa_cons (pv 0) (pa_cons (pe_op op_sub (pv 1) pe_int) pa_nil))))
      (pss_one (ps_ret (pe_tup (pa_cons (pv 2) (pa_cons (pe_op op_add (pv 3) (pe_callTy q_intB (by rfl) T.z_int (by decide +kernel) (pa_cons (pe_cmpR op_ge (pv 3) (pv 2) (nomark _)) pa_nil))) pa_nil))))))), pure_law_way h⟩


/-! ### types of data -/
def tyD : PyData → String
  | .none => "NoneType"
  | .bool _ => "bool"
  | .int _ => "int"
  | .str _ => "str"
  | .list _ => "list"
  | .tuple _ => "tuple"
  | .dict _ => "dict"
def wholeD : PyData → Bool
  | .int _ => true
  | _ => false
def isD (t : String) (d : PyData) : Bool := decide (tyD d = t)
theorem ty_tup {K : PySem.W.Frag} {H : Hp} {p : Addr} {xs : List V} (h : SqT K H p xs) : ∃ t, t = "tuple" ∧ TyX K H (.ref p) (.type t) := by
  rcases h with (h | ⟨o, h⟩) | ⟨o, its, n, h1, h2, h3⟩
  · exact ⟨_, rfl, .base (.tup h)⟩
  · exact ⟨_, rfl, .fTuple h⟩
  · exact ⟨_, rfl, .kTuple h1 h2⟩
section
variable {K : PySem.W.Frag} {H : Hp} {Q : VK} {v : V} {d : PyData}
theorem dp_ty (h : Dp K H v d) : TyX K H v (.type (tyD d)) := by
  cases h with
  | non => exact .base .non
  | bl b => exact .base (.bl b)
  | int i => exact .base (.int i)
  | str s => exact .base (.str s)
  | lst h _ => exact ty_list h
  | tup h _ => obtain ⟨t, rfl, ty⟩ := ty_tup h; exact ty
theorem dp_tyIn (h : Dp K H v d) : tyD d ∈ ["NoneType", "bool", "int", "str", "list", "tuple"] := by cases h <;> simp [tyD]
theorem kb_tuple : ∀ s ∈ ["NoneType", "bool", "int", "str", "list", "tuple"], kitB s "tuple" = some (decide (s = "tuple")) := by decide +kernel
theorem kb_str : ∀ s ∈ ["NoneType", "bool", "int", "str", "list", "tuple"], kitB s "str" = some (decide (s = "str")) := by decide +kernel
theorem kb_list : ∀ s ∈ ["NoneType", "bool", "int", "str", "list", "tuple"], kitB s "list" = some (decide (s = "list")) := by decide +kernel
theorem kb_bool : ∀ s ∈ ["NoneType", "bool", "int", "str", "list", "tuple"], kitB s "bool" = some (decide (s = "bool")) := by decide +kernel
theorem kb_dict : ∀ s ∈ ["NoneType", "bool", "int", "str", "list", "tuple"], kitB s "dict" = some false := by decide +kernel
theorem kb_int : ∀ s ∈ ["NoneType", "bool", "int", "str", "list", "tuple"], kitB s "int" = some (decide (s = "int") || decide (s = "bool")) := by decide +kernel
theorem k_isiTupD (h : Dp K H v d) (q : Q (.bl (isD "tuple" d)) H) : rIsi K [v, .ty "tuple"] H Q := k_isi (dp_ty h) (kb_tuple _ (dp_tyIn h)) q
theorem k_isiStrD (h : Dp K H v d) (q : Q (.bl (isD "str" d)) H) : rIsi K [v, .ty "str"] H Q := k_isi (dp_ty h) (kb_str _ (dp_tyIn h)) q
theorem k_isiListD (h : Dp K H v d) (q : Q (.bl (isD "list" d)) H) : rIsi K [v, .ty "list"] H Q := k_isi (dp_ty h) (kb_list _ (dp_tyIn h)) q
theorem k_isiDictD (h : Dp K H v d) (q : Q (.bl false) H) : rIsi K [v, .ty "dict"] H Q := k_isi (dp_ty h) (kb_dict _ (dp_tyIn h)) q
theorem k_isiBoolD (h : Dp K H v d) (q : Q (.bl (isD "bool" d)) H) : rIsi K [v, .ty "bool"] H Q := k_isi (dp_ty h) (kb_bool _ (dp_tyIn h)) q
theorem k_isiIntD (h : Dp K H v d) (q : Q (.bl (isD "int" d || isD "bool" d)) H) : rIsi K [v, .ty "int"] H Q := k_isi (dp_ty h) (kb_int _ (dp_tyIn h)) q
end
def pr_is_whole (K : PySem.W.Frag) (v0 : V) (H : Hp) (Q : VK) (_ : XK) : Prop := ∃ d : PyData, Dp K H v0 d ∧ Q (.bl (wholeD d)) H
def t_is_whole (K : PySem.W.Frag) : TS :=
  (tRet (tAndV (tCB (rIsi K) (tCons (tVar 0) (tCons (tC (.ty "int")) tNil))) (tNotV (tCB (rIsi K) (tCons (tVar 0) (tCons (tC (.ty "bool")) tNil))))))
theorem pure_is_whole {v0 : V} {H : Hp} {Q : VK} {E : XK} (h : pr_is_whole K v0 H Q E) : t_is_whole K ⟨fun _ H' => Q .non H', Q, fun _ _ => False, fun _ _ => False⟩ [some v0] H := by
  obtain ⟨d, hd, q⟩ := h
  unfold t_is_whole
  refine k_ret (k_andV ?_)
  refine k_cb (k_cons (k_var rfl (k_cons (k_c (k_nil ?_)))))
  refine k_isiIntD hd ?_
  refine ⟨_, rfl, ?_⟩
  have c : (isD "int" d || isD "bool" d) = true ∨ (isD "int" d || isD "bool" d) = false := by cases (isD "int" d || isD "bool" d) <;> simp
  rcases c with c | c
  · rw [c, if_pos rfl]
    refine k_notV ?_
    refine k_cb (k_cons (k_var rfl (k_cons (k_c (k_nil ?_)))))
    refine k_isiBoolD hd ⟨_, rfl, ?_⟩
    have e : (!isD "bool" d) = wholeD d := by cases d <;> first | rfl | (exact absurd c (by simp [isD, tyD]))
    rw [e]; exact q
  · rw [c, if_neg (by decide)]
    have e : wholeD d = false := by cases d <;> first | rfl | (exact absurd c (by simp [isD, tyD]))
    rw [e] at q; exact q
abbrev sp_is_whole (K : PySem.W.Frag) : Sp := fun vs H Q E => ∃ v0, vs = [v0] ∧ pr_is_whole K v0 H Q E
theorem ok_is_whole (T : Txt K mg A) : FnOk P w K mg base CX0 1 A.a_is_whole A.d_is_whole ["thing"] (sp_is_whole K) := by
  refine T.F_is_whole.ok sc_is_whole (fun vs H Q E h => by obtain ⟨v0, rfl, _⟩ := h; rfl) (fun cdv A0 outer s H vs Q E hr h => ?_)
  obtain ⟨v0, rfl, h⟩ := h
  exact ⟨t_is_whole K, (pss_one (ps_ret (pe_and (pe_callB q_isi (by rfl) T.z_isinstance (by decide +kernel) (pa_cons (pv 0) (pa_cons (pe_bltn (v := .ty "int") (by rfl) T.z_int (by decide +kernel) rfl) pa_nil))) (pe_one (pe_not (pe_callB q_isi (by rfl) T.z_isinstance (by decide +kernel) (pa_cons (pv 0) (pa_cons (pe_bltn (v := .ty "bool") (by rfl) T.z_bool (by decide +kernel) rfl) pa_nil)))))))), pure_is_whole h⟩
def turnW (w : Int × Int) (u : Int) : Int × Int := if u = 1 then (w.2, w.1) else w
def turnAll (ws : List (Int × Int)) (us : List Int) : List (Int × Int) := List.zipWith turnW ws us
def TurnOk (ws : List (Int × Int)) (us : List Int) : Prop := us.length = ws.length ∧ ∀ u ∈ us, 0 ≤ u ∧ u ≤ 1
def short (n : Int) (w : Int × Int) : Int := if n < 2 * up n w.1 w.2 then 1 else 0


/-- the numbers below n that P takes -/
def keepI (n : Nat) (P : Nat → Bool) : List Int := ((List.range n).filter P).map fun (i : Nat) => (i : Int)
theorem keepI_fm (n : Nat) (P : Nat → Bool) : (List.range n).filterMap (fun i => if P i = true then some (V.int (0 + (i : Nat))) else none) = List.map V.int (keepI n P) := by
  unfold keepI
  rw [List.map_map]
  induction (List.range n) with
  | nil => rfl
  | cons x r ih =>
    by_cases c : P x = true
    · rw [List.filterMap_cons, if_pos c, List.filter_cons, if_pos c]
      simp only [List.map_cons]
      rw [ih]
      simp
    · rw [List.filterMap_cons, if_neg c, List.filter_cons, if_neg c]
      exact ih
theorem keepI_srt (n : Nat) (P : Nat → Bool) : (keepI n P).Pairwise (· < ·) := by
  unfold keepI
  exact List.pairwise_map.mpr ((List.pairwise_lt_range.filter P).imp fun h => by omega)
theorem keepI_mem {n : Nat} {P : Nat → Bool} {t : Int} : t ∈ keepI n P ↔ 0 ≤ t ∧ t < n ∧ P t.toNat = true := by
  unfold keepI
  rw [List.mem_map]
  constructor
  · rintro ⟨i, hi, rfl⟩
    obtain ⟨h1, h2⟩ := List.mem_filter.mp hi
    have := List.mem_range.mp h1
    exact ⟨by omega, by omega, by rw [Int.toNat_natCast]; exact h2⟩
  · rintro ⟨h0, h1, h2⟩
    exact ⟨t.toNat, List.mem_filter.mpr ⟨List.mem_range.mpr (by omega), h2⟩, by omega⟩
theorem nodup_below : ∀ (n : Nat) (l : List Int), l.Nodup → (∀ x ∈ l, 0 ≤ x ∧ x < n) → l.length ≤ n
  | 0, l, _, h => by
    cases l with
    | nil => simp
    | cons x r => have := h x List.mem_cons_self; omega
  | n + 1, l, nd, h => by
    have e : l.length = l.countP (fun x => decide (x = (n : Int))) + l.countP (fun x => !decide (x = (n : Int))) := by
      have := List.length_eq_countP_add_countP (fun x : Int => decide (x = (n : Int))) (l := l)
      rw [this]
      congr 1
      exact List.countP_congr fun x _ => by simp
    have c1 : l.countP (fun x => decide (x = (n : Int))) ≤ 1 := by
      have := List.nodup_iff_count.mp nd (n : Int)
      rw [List.count_eq_countP] at this
      have e2 : l.countP (fun x => decide (x = (n : Int))) = l.countP (· == (n : Int)) := List.countP_congr fun x _ => by simp
      rw [e2]; exact this
    have c2 := nodup_below n (l.filter fun x => !decide (x = (n : Int))) (nd.filter _) (fun x hx => by
      obtain ⟨h1, h2⟩ := List.mem_filter.mp hx
      have := h x h1
      simp at h2
      omega)
    rw [← List.countP_eq_length_filter] at c2
    omega
theorem firstMet_nd (val : Nat → Int) : ∀ i, (PyProof.Rows.firstMet val i).Nodup ∧ ∀ x ∈ PyProof.Rows.firstMet val i, ∃ j, j < i ∧ x = val j
  | 0 => ⟨List.nodup_nil, fun x z => by cases z⟩
  | i + 1 => by
    obtain ⟨h1, h2⟩ := firstMet_nd val i
    rw [PyProof.Rows.firstMet_succ]
    unfold PyProof.Rows.step_dedup
    split
    · exact ⟨h1, fun x hx => by obtain ⟨j, hj, e⟩ := h2 x hx; exact ⟨j, by omega, e⟩⟩
    · rename_i c
      refine ⟨?_, fun x hx => ?_⟩
      · rw [List.nodup_append]
        refine ⟨h1, by simp, fun x hx y hy e => ?_⟩
        rw [List.mem_singleton.mp hy] at e
        refine c (List.any_eq_true.mpr ⟨x, hx, by simp [e]⟩)
      · rcases List.mem_append.mp hx with hx | hx
        · obtain ⟨j, hj, e⟩ := h2 x hx; exact ⟨j, by omega, e⟩
        · exact ⟨i, by omega, List.mem_singleton.mp hx⟩
theorem unl_below {hs : List Int} {n : Nat} (h : ∀ x ∈ hs, 0 ≤ x ∧ x < n) : unl hs ≤ n := by
  obtain ⟨h1, h2⟩ := firstMet_nd (fun i => hs.getD i 0) hs.length
  refine nodup_below n _ h1 fun x hx => ?_
  obtain ⟨j, hj, rfl⟩ := h2 x hx
  refine h _ ?_
  show hs.getD j 0 ∈ hs
  rw [List.getD_eq_getElem?_getD, List.getElem?_eq_getElem hj]
  exact List.getElem_mem hj
theorem ss_ext : ∀ {xs ys : List Int}, xs.Pairwise (· < ·) → ys.Pairwise (· < ·) → (∀ t, t ∈ xs ↔ t ∈ ys) → xs = ys
  | [], [], _, _, _ => rfl
  | [], y :: ys, _, _, h => by have := (h y).mpr List.mem_cons_self; cases this
  | x :: xs, [], _, _, h => by have := (h x).mp List.mem_cons_self; cases this
  | x :: xs, y :: ys, h1, h2, h => by
    obtain ⟨a1, a2⟩ := List.pairwise_cons.mp h1
    obtain ⟨b1, b2⟩ := List.pairwise_cons.mp h2
    have e : x = y := by
      rcases List.mem_cons.mp ((h x).mp List.mem_cons_self) with e | e
      · exact e
      · rcases List.mem_cons.mp ((h y).mpr List.mem_cons_self) with e' | e'
        · exact e'.symm
        · have := b1 _ e; have := a1 _ e'; omega
    subst e
    congr 1
    refine ss_ext a2 b2 fun t => ?_
    constructor
    · intro ht
      rcases List.mem_cons.mp ((h t).mp (List.mem_cons_of_mem _ ht)) with e | e
      · have := a1 _ ht; omega
      · exact e
    · intro ht
      rcases List.mem_cons.mp ((h t).mpr (List.mem_cons_of_mem _ ht)) with e | e
      · have := b1 _ ht; omega
      · exact e
/-! ### ways that meet -/
def tiesF (N : Net) (w : Int × Int) : List Int := keepI N.ties fun t => decide (OnTie N w.1 w.2 (t : Nat))
theorem tiesF_mem {N : Net} (ok : N.ok) {w : Int × Int} (hw : isWay N w.1 w.2) (t : Int) : t ∈ tiesF N w ↔ OnTie N w.1 w.2 t := by
  unfold tiesF
  rw [keepI_mem]
  constructor
  · rintro ⟨h1, h2, h3⟩
    have := of_decide_eq_true h3
    rwa [Int.toNat_of_nonneg h1] at this
  · intro h
    obtain ⟨h1, h2⟩ := on_range ok hw h
    exact ⟨h1, h2, decide_eq_true (by rw [Int.toNat_of_nonneg h1]; exact h)⟩
theorem tiesF_len (N : Net) (w : Int × Int) : (tiesF N w).length ≤ N.ties := by
  unfold tiesF keepI
  rw [List.length_map]
  have := List.length_filter_le (fun t : Nat => decide (OnTie N w.1 w.2 (t : Nat))) (List.range N.ties)
  rwa [List.length_range] at this
theorem tiesF_of {N : Net} (ok : N.ok) {w : Int × Int} (hw : isWay N w.1 w.2) {ns : List Int} (hs : ns.Pairwise (· < ·)) (hm : ∀ t, t ∈ ns ↔ OnTie N w.1 w.2 t) : ns = tiesF N w :=
  ss_ext hs (keepI_srt _ _) fun t => by rw [hm t, tiesF_mem ok hw t]
def commonB (xs ys : List Int) : Bool := xs.any fun t => decide (t ∈ ys)
theorem common_iff {xs ys : List Int} : commonB xs ys = true ↔ ∃ t, t ∈ xs ∧ t ∈ ys := by
  unfold commonB
  rw [List.any_eq_true]
  constructor
  · rintro ⟨t, h1, h2⟩; exact ⟨t, h1, of_decide_eq_true h2⟩
  · rintro ⟨t, h1, h2⟩; exact ⟨t, h1, decide_eq_true h2⟩
theorem common_comm (xs ys : List Int) : commonB xs ys = commonB ys xs := by
  rw [Bool.eq_iff_iff, common_iff, common_iff]
  constructor <;> rintro ⟨t, h1, h2⟩ <;> exact ⟨t, h2, h1⟩
def meetB (N : Net) (w v : Int × Int) : Bool := commonB (tiesF N w) (tiesF N v)
def meetRow (N : Net) (ws : List (Int × Int)) (i : Nat) : List Int := keepI ws.length fun k => decide (k ≠ i) && meetB N (ws.getD i (0, 0)) (ws.getD k (0, 0))
def meetF (N : Net) (ws : List (Int × Int)) : List (List Int) := (List.range ws.length).map (meetRow N ws)
/-- who meets whom -/
structure Adj (M : List (List Int)) : Prop where
  rng : ∀ (i : Nat), ∀ o ∈ M.getD i [], 0 ≤ o ∧ o < M.length ∧ o ≠ (i : Int)
  sym : ∀ (i j : Nat), i < M.length → j < M.length → ((j : Int) ∈ M.getD i [] ↔ (i : Int) ∈ M.getD j [])
  len : ∀ r ∈ M, r.length ≤ M.length
theorem meetF_len (N : Net) (ws : List (Int × Int)) : (meetF N ws).length = ws.length := by unfold meetF; rw [List.length_map, List.length_range]
theorem meetF_get {N : Net} {ws : List (Int × Int)} {i : Nat} (h : i < ws.length) : (meetF N ws).getD i [] = meetRow N ws i := by
  unfold meetF
  rw [List.getD_eq_getElem?_getD, List.getElem?_map, List.getElem?_range h]; rfl
theorem meetRow_mem {N : Net} {ws : List (Int × Int)} {i j : Nat} : (j : Int) ∈ meetRow N ws i ↔ j < ws.length ∧ j ≠ i ∧ meetB N (ws.getD i (0, 0)) (ws.getD j (0, 0)) = true := by
  unfold meetRow
  rw [keepI_mem]
  simp only [Int.toNat_natCast, Bool.and_eq_true, decide_eq_true_eq]
  constructor
  · rintro ⟨_, h1, h2, h3⟩; exact ⟨by omega, h2, h3⟩
  · rintro ⟨h1, h2, h3⟩; exact ⟨by omega, by omega, h2, h3⟩
theorem meetF_adj (N : Net) (ws : List (Int × Int)) : Adj (meetF N ws) := by
  refine ⟨fun i o ho => ?_, fun i j hi hj => ?_, fun r hr => ?_⟩
  · rw [meetF_len]
    by_cases c : i < ws.length
    · rw [meetF_get c] at ho
      have h0 : 0 ≤ o := (keepI_mem.mp ho).1
      obtain ⟨j, rfl⟩ : ∃ j : Nat, o = j := ⟨o.toNat, by omega⟩
      obtain ⟨h1, h2, _⟩ := meetRow_mem.mp ho
      exact ⟨h0, by omega, by omega⟩
    · rw [List.getD_eq_getElem?_getD, List.getElem?_eq_none (by rw [meetF_len]; omega)] at ho
      cases ho
  · rw [meetF_len] at hi hj
    rw [meetF_get hi, meetF_get hj, meetRow_mem, meetRow_mem]
    unfold meetB
    rw [common_comm]
    constructor
    · rintro ⟨_, h2, h3⟩; exact ⟨hi, fun z => h2 z.symm, h3⟩
    · rintro ⟨_, h2, h3⟩; exact ⟨hj, fun z => h2 z.symm, h3⟩
  · rw [meetF_len]
    obtain ⟨i, _, rfl⟩ := List.mem_map.mp hr
    unfold meetRow keepI
    rw [List.length_map]
    have := List.length_filter_le (fun k => decide (k ≠ i) && meetB N (ws.getD i (0, 0)) (ws.getD k (0, 0))) (List.range ws.length)
    rwa [List.length_range] at this
/-! ### dicts of whole numbers, as lists -/
def lookS (ss : List (Int × Int)) (k : Int) : Option Int := (ss.find? fun p => decide (p.1 = k)).map (·.2)
theorem look_add {ss : List (Int × Int)} {k u j : Int} (h : lookS ss k = none) : lookS (ss ++ [(k, u)]) j = if j = k then some u else lookS ss j := by
  unfold lookS at *
  rw [List.find?_append]
  by_cases c : j = k
  · subst c
    rw [if_pos rfl]
    have : ss.find? (fun p => decide (p.1 = j)) = none := by
      cases z : ss.find? (fun p => decide (p.1 = j)) with
      | none => rfl
      | some x => rw [z] at h; cases h
    rw [this]
    simp
  · rw [if_neg c]
    have : [(k, u)].find? (fun p => decide (p.1 = j)) = none := by
      simp; exact fun z => c z.symm
    rw [this]
    simp
theorem look_nil (k : Int) : lookS [] k = none := rfl
def dS (ss : List (Int × Int)) : List (Key × V) := ss.map fun p => (.inl p.1, .int p.2)
theorem dS_val {ss : List (Int × Int)} {k : Int} : valV (dS ss) (.inl k) = (lookS ss k).map V.int := by
  unfold valV dS lookS
  induction ss with
  | nil => rfl
  | cons p r ih =>
    rw [List.map_cons, List.find?_cons, List.find?_cons]
    by_cases c : p.1 = k
    · simp [c]
    · have c' : (decide (p.1 = k)) = false := decide_eq_false c
      simp only [c']
      have : decide ((Sum.inl p.1 : Key) = Sum.inl k) = false := decide_eq_false fun z => c (by cases z; rfl)
      simp only [this]
      exact ih
theorem dS_put {ss : List (Int × Int)} {k u : Int} (h : lookS ss k = none) : putK (dS ss) (.inl k) (.int u) = dS (ss ++ [(k, u)]) := by
  unfold putK
  have hn : (dS ss).any (fun kv => decide (kv.1 = Sum.inl k)) = false := by
    rw [List.any_eq_false]
    intro x hx z
    unfold dS at hx
    obtain ⟨p, hp, rfl⟩ := List.mem_map.mp hx
    have z' : (Sum.inl p.1 : Key) = Sum.inl k := of_decide_eq_true z
    have e : p.1 = k := by cases z'; rfl
    unfold lookS at h
    cases y : ss.find? (fun p => decide (p.1 = k)) with
    | some a => rw [y] at h; cases h
    | none => exact absurd (decide_eq_true e) (by simpa using List.find?_eq_none.mp y p hp)
  rw [hn]
  unfold dS
  rw [List.map_append]
  rfl
theorem dS_len (ss : List (Int × Int)) : (dS ss).length = ss.length := by unfold dS; simp
theorem countP_lt {α : Type} {p q : α → Bool} : ∀ {l : List α}, (∀ x ∈ l, p x = true → q x = true) → (∃ x ∈ l, q x = true ∧ p x = false) → l.countP p < l.countP q
  | [], _, ⟨x, hx, _⟩ => by cases hx
  | a :: r, h, ⟨x, hx, h1, h2⟩ => by
    rw [List.countP_cons, List.countP_cons]
    have mono : r.countP p ≤ r.countP q := List.countP_mono_left fun y hy => h y (List.mem_cons_of_mem _ hy)
    rcases List.mem_cons.mp hx with rfl | hx
    · rw [h1, h2]; simp; omega
    · have ih := countP_lt (l := r) (fun y hy => h y (List.mem_cons_of_mem _ hy)) ⟨x, hx, h1, h2⟩
      have ha := h a List.mem_cons_self
      cases hp : p a with
      | false => simp; split <;> omega
      | true => rw [ha hp]; simp; omega
/-- numbers below n that are no keys -/
def frN (n : Nat) (ss : List (Int × Int)) : Nat := (List.range n).countP fun i : Nat => (lookS ss (i : Int)).isNone
theorem frN_lt {n : Nat} {ss : List (Int × Int)} {k u : Int} (k0 : 0 ≤ k) (k1 : k < n) (h : lookS ss k = none) : frN n (ss ++ [(k, u)]) < frN n ss := by
  refine countP_lt (fun i _ hi => ?_) ⟨k.toNat, List.mem_range.mpr (by omega), ?_, ?_⟩
  · rw [look_add h] at hi
    split at hi
    · cases hi
    · exact hi
  · rw [Int.toNat_of_nonneg k0, h]; rfl
  · rw [look_add h, Int.toNat_of_nonneg k0, if_pos rfl]; rfl
theorem frN_nil (n : Nat) : frN n [] = n := by
  show (List.range n).countP (fun _ => true) = n
  rw [List.countP_true, List.length_range]
def intD : PyData → Int
  | .int i => i
  | _ => 0
theorem whole_int {d : PyData} (h : wholeD d = true) : d = .int (intD d) := by
  cases d <;> first | rfl | cases h
/-! ### hues of ways that meet; cases -/
def Proper (M : List (List Int)) (h : Int) (f : Nat → Int) : Prop := ∀ i : Nat, i < M.length → (0 ≤ f i ∧ f i < h) ∧ ∀ o ∈ M.getD i [], f o.toNat ≠ f i
def swp (a b x : Int) : Int := if x = a then b else if x = b then a else x
theorem swp_inj {a b x y : Int} (h : swp a b x = swp a b y) : x = y := by
  unfold swp at h
  repeat' split at h
  all_goals omega
theorem Proper.swap {M : List (List Int)} {h a b : Int} {f : Nat → Int} (p : Proper M h f) (ha : 0 ≤ a ∧ a < h) (hb : 0 ≤ b ∧ b < h) : Proper M h fun i => swp a b (f i) := fun i hi => by
  obtain ⟨h1, h2⟩ := p i hi
  refine ⟨?_, fun o ho z => h2 o ho (swp_inj z)⟩
  show 0 ≤ swp a b (f i) ∧ swp a b (f i) < h
  unfold swp
  repeat' split
  all_goals omega
theorem nodup_lenI : ∀ {l m : List Int}, l.Nodup → (∀ x ∈ l, x ∈ m) → l.length ≤ m.length
  | [], m, _, _ => by simp
  | a :: l, m, nd, h => by
    have nd' := List.nodup_cons.mp nd
    have := nodup_lenI (l := l) (m := m.erase a) nd'.2 (fun x hx => (List.mem_erase_of_ne (fun e => nd'.1 (by rw [← e]; exact hx))).mpr (h x (List.mem_cons_of_mem _ hx)))
    rw [List.length_erase_of_mem (h a List.mem_cons_self)] at this
    have := List.length_pos_of_mem (h a List.mem_cons_self)
    simp only [List.length_cons]
    omega
theorem met_allI (val : Nat → Int) : ∀ i j, j < i → val j ∈ PyProof.Rows.firstMet val i
  | 0, j, h => by omega
  | i + 1, j, h => by
    rw [PyProof.Rows.firstMet_succ]
    unfold PyProof.Rows.step_dedup
    by_cases c : j = i
    · subst c
      split
      · rename_i a
        obtain ⟨x, hx, e⟩ := List.any_eq_true.mp a
        have : x = val j := by simpa using e
        rw [← this]; exact hx
      · simp
    · have := met_allI val i j (by omega)
      split
      · exact this
      · exact List.mem_append_left _ this
/-- just the hues below m are used -/
def Can (m : Nat) (hs : List Int) : Prop := (∀ x ∈ hs, 0 ≤ x ∧ x < m) ∧ ∀ c : Nat, c < m → (c : Int) ∈ hs
theorem Can.unl {m : Nat} {hs : List Int} (h : Can m hs) : unl hs = m := by
  have h1 := unl_below h.1
  have h2 : ((List.range m).map fun c : Nat => (c : Int)).length ≤ Cm.unl hs := by
    unfold Cm.unl
    refine nodup_lenI (List.pairwise_map.mpr (List.pairwise_lt_range.imp fun {a b} hab => by omega)) fun x hx => ?_
    obtain ⟨c, hc, rfl⟩ := List.mem_map.mp hx
    obtain ⟨j, hj, e⟩ := List.mem_iff_getElem.mp (h.2 c (List.mem_range.mp hc))
    have := met_allI (fun i => hs.getD i 0) hs.length j hj
    simp only [List.getD_eq_getElem?_getD, List.getElem?_eq_getElem hj, Option.getD_some, e] at this
    exact this
  rw [List.length_map, List.length_range] at h2
  omega
theorem Can.nil : Can 0 [] := ⟨(fun x z => by cases z), fun c z => by omega⟩
theorem Can.app {m : Nat} {hs : List Int} {c : Nat} (h : Can m hs) (hc : c ≤ m) : Can (max m (c + 1)) (hs ++ [(c : Int)]) := by
  refine ⟨fun x hx => ?_, fun e he => ?_⟩
  · rcases List.mem_append.mp hx with hx | hx
    · have := h.1 x hx; omega
    · rw [List.mem_singleton.mp hx]; omega
  · by_cases z : e = c
    · rw [z]; exact List.mem_append_right _ (List.mem_singleton.mpr rfl)
    · exact List.mem_append_left _ (h.2 e (by omega))
/-- a proper giving may be taken to give the next way one of the options -/
theorem pick_opt {M : List (List Int)} {h : Int} {f : Nat → Int} {m k : Nat} (p : Proper M h f) (hk : k < M.length) : ∃ g, Proper M h g ∧ (∀ i, 0 ≤ f i → f i < m → g i = f i) ∧ 0 ≤ g k ∧ g k ≤ m ∧ g k < h := by
  obtain ⟨⟨h1, h2⟩, _⟩ := p k hk
  by_cases c : f k ≤ m
  · exact ⟨f, p, fun _ _ _ => rfl, h1, c, h2⟩
  · have e : swp (f k) (m : Int) (f k) = m := by unfold swp; rw [if_pos rfl]
    refine ⟨fun i => swp (f k) m (f i), p.swap ⟨h1, h2⟩ ⟨by omega, by omega⟩, fun i i0 i1 => ?_, ?_, ?_, ?_⟩
    · show swp (f k) m (f i) = f i
      unfold swp
      rw [if_neg (by omega), if_neg (by omega)]
    · show 0 ≤ swp (f k) m (f k)
      rw [e]; omega
    · show swp (f k) m (f k) ≤ _
      rw [e]; exact Int.le_refl _
    · show swp (f k) m (f k) < h
      rw [e]; omega
def isEmp : PyData → Bool
  | .tuple [] => true
  | _ => false
/-- how many options -/
def optN (h : Int) (gs : List (Int × Int)) : Nat := (min (h - 1) (Cm.unl (gs.map (·.2)) : Nat) + 1).toNat
def stuckB (M : List (List Int)) (gs : List (Int × Int)) (k c : Int) : Bool := (M.getD k.toNat []).any fun o => decide (lookS gs o = some c)
def caseJ (M : List (List Int)) (h : Int) : Nat → List (Int × Int) → PyData → Bool
  | d + 1, gs, .tuple [a, .list cs] =>
    (wholeD a && decide (0 ≤ intD a) && decide (intD a < M.length) && (lookS gs (intD a)).isNone && decide (cs.length = optN h gs)) &&
      (List.range cs.length).all fun i => if stuckB M gs (intD a) (i : Int) then isEmp (cs.getD i .none) else caseJ M h d (gs ++ [(intD a, (i : Int))]) (cs.getD i .none)
  | _, _, _ => false
theorem caseJ_not {M : List (List Int)} {h : Int} {d : Nat} {gs : List (Int × Int)} {D : PyData} (hd : isD "tuple" D = false) : caseJ M h d gs D = false := by
  cases d with
  | zero => rfl
  | succ d => cases D <;> first | rfl | (simp [isD, tyD] at hd)
theorem caseJ_len {M : List (List Int)} {h : Int} {d : Nat} {gs : List (Int × Int)} {ds : List PyData} (hl : ds.length ≠ 2) : caseJ M h d gs (.tuple ds) = false := by
  cases d with
  | zero => rfl
  | succ d =>
    match ds, hl with
    | [], _ => rfl
    | [_], _ => rfl
    | [_, _], h => exact absurd rfl h
    | _ :: b :: _ :: _, _ => cases b <;> rfl
theorem caseJ_list {M : List (List Int)} {h : Int} {d : Nat} {gs : List (Int × Int)} {a b : PyData} (hl : isD "list" b = false) : caseJ M h d gs (.tuple [a, b]) = false := by
  cases d with
  | zero => rfl
  | succ d => cases b <;> first | rfl | (simp [isD, tyD] at hl)
/-- a right case: no proper giving -/
theorem case_bars {M : List (List Int)} {h : Int} (A : Adj M) : ∀ {d : Nat} {gs : List (Int × Int)} {D : PyData} {m : Nat} {f : Nat → Int}, caseJ M h d gs D = true → Can m (gs.map (·.2)) → Proper M h f → (∀ k u, 0 ≤ k → lookS gs k = some u → f k.toNat = u) → False
  | 0, gs, D, m, f, hc, _, _, _ => by cases hc
  | d + 1, gs, D, m, f, hc, can, p, ag => by
    match D, hc with
    | .tuple [a, .list cs], hc =>
      unfold caseJ at hc
      simp only [Bool.and_eq_true, decide_eq_true_eq] at hc
      obtain ⟨⟨⟨⟨⟨_, k0⟩, k1⟩, kn⟩, hl⟩, all⟩ := hc
      have kn' : lookS gs (intD a) = none := Option.isNone_iff_eq_none.mp kn
      obtain ⟨k, hk⟩ : ∃ k : Nat, intD a = (k : Int) := ⟨(intD a).toNat, by omega⟩
      rw [hk] at k0 k1 kn' all
      obtain ⟨g, pg, fix, g0, g1, g2⟩ := pick_opt (m := m) p (show k < M.length by omega)
      have agg : ∀ j u, 0 ≤ j → lookS gs j = some u → g j.toNat = u := fun j u j0 hj => by
        have e := ag j u j0 hj
        have hu : u ∈ gs.map (·.2) := by
          unfold lookS at hj
          obtain ⟨q, hq, e2⟩ := Option.map_eq_some_iff.mp hj
          exact List.mem_map.mpr ⟨q, List.mem_of_find?_eq_some hq, e2⟩
        have := can.1 u hu
        rw [fix _ (by omega) (by omega), e]
      have cl : (g k).toNat < cs.length := by
        rw [hl]
        unfold optN
        rw [can.unl]
        omega
      have := List.all_eq_true.mp all _ (List.mem_range.mpr cl)
      obtain ⟨c, hcg⟩ : ∃ c : Nat, g k = (c : Int) := ⟨(g k).toNat, by omega⟩
      rw [hcg, Int.toNat_natCast] at this
      cases st : stuckB M gs (k : Int) (c : Int) with
      | true =>
        unfold stuckB at st
        obtain ⟨o, ho, e⟩ := List.any_eq_true.mp st
        rw [Int.toNat_natCast] at ho
        have e := of_decide_eq_true e
        have r := A.rng k o ho
        have := agg o _ r.1 e
        exact (pg k (by omega)).2 o ho (by rw [this, hcg])
      | false =>
        rw [st] at this
        simp only [Bool.false_eq_true, if_false] at this
        refine case_bars A this (m := max m (c + 1)) (f := g) (by rw [List.map_append]; exact can.app (by omega)) pg (fun j u j0 hj => ?_)
        rw [look_add kn'] at hj
        split at hj
        · rename_i e
          cases hj
          rw [e, Int.toNat_natCast, hcg]
        · exact agg j u j0 hj
/-! ### hues by trying, way by way -/
def blockedB (M : List (List Int)) (hs : List Int) (c : Int) : Bool := (M.getD hs.length []).any fun o => decide (o < hs.length) && decide (hs.getD o.toNat 0 = c)
def enoughF (M : List (List Int)) (h : Int) : Nat → List Int → Bool
  | 0, _ => true
  | d + 1, hs => (List.range (min h ((Cm.unl hs : Nat) + 1)).toNat).any fun c => !blockedB M hs (c : Int) && enoughF M h d (hs ++ [(c : Int)])
theorem getD_app {hs : List Int} {c : Int} {i : Nat} (h : i < hs.length) : (hs ++ [c]).getD i 0 = hs.getD i 0 := by
  rw [List.getD_eq_getElem?_getD, List.getD_eq_getElem?_getD, List.getElem?_append_left h]
theorem getD_new {hs : List Int} {c : Int} : (hs ++ [c]).getD hs.length 0 = c := by
  rw [List.getD_eq_getElem?_getD, List.getElem?_append_right (Nat.le_refl _), Nat.sub_self]; rfl
theorem enough_col {M : List (List Int)} {h : Int} (A : Adj M) : ∀ {d : Nat} {hs : List Int}, enoughF M h d hs = true → hs.length + d = M.length → (∀ x ∈ hs, 0 ≤ x ∧ x < h) → (∀ i : Nat, i < hs.length → ∀ o ∈ M.getD i [], o < (i : Int) → hs.getD o.toNat 0 ≠ hs.getD i 0) → ∃ f, Proper M h f
  | 0, hs, _, hl, hr, hp => by
    refine ⟨fun i => hs.getD i 0, fun i hi => ⟨hr _ ?_, fun o ho => ?_⟩⟩
    · show hs.getD i 0 ∈ hs
      rw [List.getD_eq_getElem?_getD, List.getElem?_eq_getElem (by omega)]
      exact List.getElem_mem _
    · have r := A.rng i o ho
      by_cases c : o < (i : Int)
      · exact hp i (by omega) o ho c
      · obtain ⟨j, rfl⟩ : ∃ j : Nat, o = (j : Int) := ⟨o.toNat, by omega⟩
        have s := (A.sym i j hi (by omega)).mp ho
        have := hp j (by omega) i s (by omega)
        rw [Int.toNat_natCast] at this ⊢
        exact fun z => this z.symm
  | d + 1, hs, he, hl, hr, hp => by
    unfold enoughF at he
    obtain ⟨c, hc, he⟩ := List.any_eq_true.mp he
    have hc := List.mem_range.mp hc
    simp only [Bool.and_eq_true, Bool.not_eq_true'] at he
    refine enough_col A he.2 (by simp; omega) (fun x hx => ?_) (fun i hi o ho hoi => ?_)
    · rcases List.mem_append.mp hx with hx | hx
      · exact hr x hx
      · rw [List.mem_singleton.mp hx]; omega
    · have r := A.rng i o ho
      rw [List.length_append, List.length_singleton] at hi
      by_cases z : i < hs.length
      · rw [getD_app (by omega), getD_app z]
        exact hp i z o ho hoi
      · obtain rfl : i = hs.length := by omega
        rw [getD_app (by omega), getD_new]
        intro e
        have bl : blockedB M hs (c : Int) = true := by
          unfold blockedB
          exact List.any_eq_true.mpr ⟨o, ho, by rw [decide_eq_true hoi, decide_eq_true e]; rfl⟩
        rw [he.1] at bl
        cases bl
theorem col_enough {M : List (List Int)} {h : Int} (A : Adj M) : ∀ {d : Nat} {hs : List Int} {m : Nat} {f : Nat → Int}, Proper M h f → hs.length + d = M.length → Can m hs → (∀ i : Nat, i < hs.length → f i = hs.getD i 0) → enoughF M h d hs = true
  | 0, _, _, _, _, _, _, _ => rfl
  | d + 1, hs, m, f, p, hl, can, ag => by
    obtain ⟨g, pg, fix, g0, g1, g2⟩ := pick_opt (m := m) p (show hs.length < M.length by omega)
    obtain ⟨c, hcg⟩ : ∃ c : Nat, g hs.length = (c : Int) := ⟨(g hs.length).toNat, by omega⟩
    have mem : ∀ i : Nat, i < hs.length → hs.getD i 0 ∈ hs := fun i hi => by
      rw [List.getD_eq_getElem?_getD, List.getElem?_eq_getElem hi]
      exact List.getElem_mem _
    have agg : ∀ i : Nat, i < hs.length → g i = hs.getD i 0 := fun i hi => by
      have := can.1 _ (mem i hi)
      rw [fix i (by rw [ag i hi]; omega) (by rw [ag i hi]; omega), ag i hi]
    unfold enoughF
    refine List.any_eq_true.mpr ⟨c, List.mem_range.mpr (by rw [can.unl]; omega), ?_⟩
    have nb : blockedB M hs (c : Int) = false := by
      cases z : blockedB M hs (c : Int) with
      | false => rfl
      | true =>
        exfalso
        unfold blockedB at z
        obtain ⟨o, ho, e⟩ := List.any_eq_true.mp z
        simp only [Bool.and_eq_true, decide_eq_true_eq] at e
        have r := A.rng _ o ho
        exact (pg hs.length (by omega)).2 o ho (by rw [agg _ (by omega), e.2, hcg])
    rw [nb, col_enough A (hs := hs ++ [(c : Int)]) (m := max m (c + 1)) pg (by simp; omega) (can.app (by omega)) (fun i hi => ?_)]
    · rfl
    · rw [List.length_append, List.length_singleton] at hi
      by_cases z : i < hs.length
      · rw [getD_app z, agg i z]
      · obtain rfl : i = hs.length := by omega
        rw [getD_new, hcg]
/-- as many hues as ways are enough -/
theorem col_all {M : List (List Int)} (A : Adj M) {h : Int} (hh : (M.length : Int) ≤ h) : Proper M h fun i => (i : Int) := fun i hi => ⟨⟨by show (0 : Int) ≤ (i : Int); omega, by show (i : Int) < h; omega⟩, fun o ho => by
  have := A.rng i o ho
  show ((o.toNat : Nat) : Int) ≠ (i : Int)
  omega⟩
theorem Proper.more {M : List (List Int)} {h h' : Int} {f : Nat → Int} (p : Proper M h f) (hh : h ≤ h') : Proper M h' f := fun i hi => by
  obtain ⟨⟨a, b⟩, c⟩ := p i hi
  exact ⟨⟨a, by omega⟩, c⟩


theorem ring_turn {n a b t : Int} (hn : 3 ≤ n) (h : isWay (.ring n) a b) (t0 : 0 ≤ t) (t1 : t < n) : OnTie (.ring n) b a t ↔ ¬ OnTie (.ring n) a b t := by
  obtain ⟨w1, w2, w3, w4, w5⟩ := h
  have w4' : a < n := w4
  have w5' : b < n := w5
  show (0 ≤ t ∧ t < n ∧ up n b t < up n b a) ↔ ¬ (0 ≤ t ∧ t < n ∧ up n a t < up n a b)
  unfold up
  constructor
  · rintro ⟨_, _, z⟩ ⟨_, _, y⟩
    repeat' split at z
    all_goals repeat' split at y
    all_goals omega
  · intro z
    refine ⟨t0, t1, ?_⟩
    have z' : ¬ (if a ≤ t then t - a else t - a + n) < (if a ≤ b then b - a else b - a + n) := fun y => z ⟨t0, t1, y⟩
    repeat' split at z'
    all_goals repeat' split
    all_goals omega
/-! ### ways on a ring, some of them settled: pairs of ties -/
/-- how a way lies on a tie: as it is told (0) or turned (1) -/
def onB (n : Int) (w : Int × Int) (u t : Int) : Bool := decide (OnTie (.ring n) (turnW w u).1 (turnW w u).2 t)
def b2i (b : Bool) : Int := if b then 1 else 0
def wt (n : Int) (w : Int × Int) (o : Option Int) (e f : Int) : Int := match o with
  | some u => b2i (onB n w u e) + b2i (onB n w u f)
  | none => if onB n w 0 e = onB n w 0 f then 0 else 1
def sumTo (n : Int) (ws ss : List (Int × Int)) (e f : Int) : Nat → Int
  | 0 => 0
  | i + 1 => sumTo n ws ss e f i + wt n (ws.getD i (0, 0)) (lookS ss (i : Int)) e f
abbrev sumF (n : Int) (ws ss : List (Int × Int)) (e f : Int) : Int := sumTo n ws ss e f ws.length
inductive Pap where
  | ties (e f : Int)
  | cut (k : Int) (one other : Pap)
def Pap.d : Pap → PyData
  | .ties e f => .tuple [.str (Str.ofString "ties"), .int e, .int f]
  | .cut k a b => .tuple [.int k, a.d, b.d]
def PapOk (n : Int) (ws : List (Int × Int)) (m : Int) : List (Int × Int) → Pap → Prop
  | ss, .ties e f => (0 ≤ e ∧ e < n) ∧ (0 ≤ f ∧ f < n) ∧ 2 * m < sumF n ws ss e f
  | ss, .cut k a b => 0 ≤ k ∧ k < ws.length ∧ lookS ss k = none ∧ PapOk n ws m (ss ++ [(k, 0)]) a ∧ PapOk n ws m (ss ++ [(k, 1)]) b
section
variable {n : Int} {ws : List (Int × Int)}
theorem onB_turn {w : Int × Int} {t : Int} (hn : 3 ≤ n) (hw : isWay (.ring n) w.1 w.2) (t0 : 0 ≤ t) (t1 : t < n) : onB n w 1 t = !onB n w 0 t := by
  have := ring_turn hn hw t0 t1
  unfold onB turnW
  rw [if_pos rfl, if_neg (by decide)]
  by_cases c : OnTie (.ring n) w.1 w.2 t
  · rw [decide_eq_true c, decide_eq_false (fun z => (this.mp z) c)]; rfl
  · rw [decide_eq_false c, decide_eq_true (this.mpr c)]; rfl
/-- how a turning lies on a tie -/
def loadTo (n : Int) (ws : List (Int × Int)) (us : List Int) (e : Int) : Nat → Int
  | 0 => 0
  | i + 1 => loadTo n ws us e i + b2i (onB n (ws.getD i (0, 0)) (us.getD i 0) e)
theorem wt_le {w : Int × Int} {e f u : Int} {o : Option Int} (hn : 3 ≤ n) (hw : isWay (.ring n) w.1 w.2) (e0 : 0 ≤ e ∧ e < n) (f0 : 0 ≤ f ∧ f < n) (hu : u = 0 ∨ u = 1) (ho : ∀ v, o = some v → u = v) : wt n w o e f ≤ b2i (onB n w u e) + b2i (onB n w u f) := by
  cases o with
  | some v => rw [ho v rfl]; exact Int.le_refl _
  | none =>
    have a := onB_turn hn hw e0.1 e0.2
    have b := onB_turn hn hw f0.1 f0.2
    show (if onB n w 0 e = onB n w 0 f then 0 else 1) ≤ _
    rcases hu with rfl | rfl
    · cases onB n w 0 e <;> cases onB n w 0 f <;> simp [b2i]
    · rw [a, b]
      cases onB n w 0 e <;> cases onB n w 0 f <;> simp [b2i]
theorem sum_le {ss : List (Int × Int)} {us : List Int} {e f : Int} (hn : 3 ≤ n) (hw : ∀ w ∈ ws, isWay (.ring n) w.1 w.2) (e0 : 0 ≤ e ∧ e < n) (f0 : 0 ≤ f ∧ f < n) (hu : ∀ i : Nat, us.getD i 0 = 0 ∨ us.getD i 0 = 1) (ag : ∀ (i : Nat) v, i < ws.length → lookS ss (i : Int) = some v → us.getD i 0 = v) : ∀ i, i ≤ ws.length → sumTo n ws ss e f i ≤ loadTo n ws us e i + loadTo n ws us f i
  | 0, _ => by simp [sumTo, loadTo]
  | i + 1, hi => by
    have ih := sum_le hn hw e0 f0 hu ag i (by omega)
    have hm : ws.getD i (0, 0) ∈ ws := by
      rw [List.getD_eq_getElem?_getD, List.getElem?_eq_getElem (by omega)]
      exact List.getElem_mem _
    have := wt_le (o := lookS ss (i : Int)) hn (hw _ hm) e0 f0 (hu i) (fun v hv => ag i v (by omega) hv)
    simp only [sumTo, loadTo]
    omega
/-- a paper bars every turning -/
theorem pap_bars {m : Int} {us : List Int} (hn : 3 ≤ n) (hw : ∀ w ∈ ws, isWay (.ring n) w.1 w.2) (hu : ∀ i : Nat, us.getD i 0 = 0 ∨ us.getD i 0 = 1) : ∀ {p : Pap} {ss : List (Int × Int)}, PapOk n ws m ss p → (∀ (i : Nat) v, i < ws.length → lookS ss (i : Int) = some v → us.getD i 0 = v) → ∃ e, (0 ≤ e ∧ e < n) ∧ m < loadTo n ws us e ws.length
  | .ties e f, ss, h, ag => by
    obtain ⟨e0, f0, h⟩ := h
    have := sum_le hn hw e0 f0 hu ag ws.length (Nat.le_refl _)
    by_cases c : m < loadTo n ws us e ws.length
    · exact ⟨e, e0, c⟩
    · refine ⟨f, f0, ?_⟩
      have h' : 2 * m < sumTo n ws ss e f ws.length := h
      omega
  | .cut k a b, ss, h, ag => by
    obtain ⟨k0, k1, kn, ha, hb⟩ := h
    have hk : us.getD k.toNat 0 = 0 ∨ us.getD k.toNat 0 = 1 := hu _
    rcases hk with hk | hk
    · refine pap_bars hn hw hu ha (fun i v hi hv => ?_)
      rw [look_add kn] at hv
      split at hv
      · rename_i e; cases hv; have e' : i = k.toNat := by omega
        rw [e']; exact hk
      · exact ag i v hi hv
    · refine pap_bars hn hw hu hb (fun i v hi hv => ?_)
      rw [look_add kn] at hv
      split at hv
      · rename_i e; cases hv; have e' : i = k.toNat := by omega
        rw [e']; exact hk
      · exact ag i v hi hv
/-- all settled: the pair e, e tells the load twice -/
theorem sum_all {ss : List (Int × Int)} {us : List Int} {e : Int} (ag : ∀ i : Nat, i < ws.length → lookS ss (i : Int) = some (us.getD i 0)) : ∀ i, i ≤ ws.length → sumTo n ws ss e e i = 2 * loadTo n ws us e i
  | 0, _ => by simp [sumTo, loadTo]
  | i + 1, hi => by
    have ih := sum_all (e := e) ag i (by omega)
    simp only [sumTo, loadTo, ag i (by omega), wt, ih]
    omega
/-- ties with the same mark have the same load -/
theorem load_like {us : List Int} {e t : Int} (hn : 3 ≤ n) (hw : ∀ w ∈ ws, isWay (.ring n) w.1 w.2) (e0 : 0 ≤ e ∧ e < n) (t0 : 0 ≤ t ∧ t < n) (hu : ∀ i : Nat, us.getD i 0 = 0 ∨ us.getD i 0 = 1) (lk : ∀ i : Nat, i < ws.length → onB n (ws.getD i (0, 0)) 0 e = onB n (ws.getD i (0, 0)) 0 t) : ∀ i, i ≤ ws.length → loadTo n ws us e i = loadTo n ws us t i
  | 0, _ => rfl
  | i + 1, hi => by
    have ih := load_like hn hw e0 t0 hu lk i (by omega)
    have hm : ws.getD i (0, 0) ∈ ws := by
      rw [List.getD_eq_getElem?_getD, List.getElem?_eq_getElem (by omega)]
      exact List.getElem_mem _
    have l := lk i (by omega)
    simp only [loadTo, ih]
    rcases hu i with z | z
    · rw [z, l]
    · rw [z, onB_turn hn (hw _ hm) e0.1 e0.2, onB_turn hn (hw _ hm) t0.1 t0.2, l]
theorem load_nonneg {us : List Int} {e : Int} : ∀ i, 0 ≤ loadTo n ws us e i
  | 0 => by simp [loadTo]
  | i + 1 => by
    have := load_nonneg (us := us) (e := e) i
    have b : 0 ≤ b2i (onB n (ws.getD i (0, 0)) (us.getD i 0) e) := by unfold b2i; split <;> omega
    simp only [loadTo]
    omega
end
/-! ### the ways settled from the first one on -/
def ssOf (us : List Int) : List (Int × Int) := (List.range us.length).map fun i : Nat => ((i : Int), us.getD i 0)
theorem ssOf_len (us : List Int) : (ssOf us).length = us.length := by simp [ssOf]
theorem ssOf_app (us : List Int) (u : Int) : ssOf (us ++ [u]) = ssOf us ++ [((us.length : Int), u)] := by
  unfold ssOf
  rw [List.length_append, show [u].length = 1 from rfl, List.range_succ, List.map_append]
  congr 1
  · refine List.map_congr_left fun i hi => ?_
    rw [List.getD_eq_getElem?_getD, List.getElem?_append_left (List.mem_range.mp hi), ← List.getD_eq_getElem?_getD]
  · simp
theorem look_ssOf (us : List Int) : ∀ m, m ≤ us.length → ∀ i : Nat, lookS ((List.range m).map fun i : Nat => ((i : Int), us.getD i 0)) (i : Int) = if i < m then some (us.getD i 0) else none
  | 0, _, i => by simp [lookS]
  | m + 1, hm, i => by
    have ih := look_ssOf us m (by omega)
    rw [List.range_succ, List.map_append]
    have h0 : lookS ((List.range m).map fun i : Nat => ((i : Int), us.getD i 0)) (m : Int) = none := by rw [ih]; simp
    rw [show List.map (fun i : Nat => ((i : Int), us.getD i 0)) [m] = [((m : Int), us.getD m 0)] from rfl, look_add h0, ih]
    by_cases c : i = m
    · subst c; simp
    · rw [if_neg (by omega)]
      by_cases d : i < m
      · rw [if_pos d, if_pos (by omega)]
      · rw [if_neg d, if_neg (by omega)]
theorem look_ss (us : List Int) (i : Nat) : lookS (ssOf us) (i : Int) = if i < us.length then some (us.getD i 0) else none := look_ssOf us us.length (Nat.le_refl _) i
theorem look_neg (us : List Int) {k : Int} (h : k < 0) : lookS (ssOf us) k = none := by
  unfold lookS
  rw [List.find?_eq_none.mpr]
  · rfl
  · intro p hp z
    unfold ssOf at hp
    obtain ⟨i, _, rfl⟩ := List.mem_map.mp hp
    have : (i : Int) = k := of_decide_eq_true z
    omega
def T01 (us : List Int) : Prop := ∀ u ∈ us, u = 0 ∨ u = 1
theorem T01.get {us : List Int} (h : T01 us) (i : Nat) : us.getD i 0 = 0 ∨ us.getD i 0 = 1 := by
  rw [List.getD_eq_getElem?_getD]
  cases c : us[i]? with
  | none => exact .inl rfl
  | some u => exact h u (List.mem_of_getElem? c)
theorem T01.app {us : List Int} {u : Int} (h : T01 us) (hu : u = 0 ∨ u = 1) : T01 (us ++ [u]) := fun v hv => by
  rcases List.mem_append.mp hv with z | z
  · exact h v z
  · rw [List.mem_singleton.mp z]; exact hu
def Pap.dep : Pap → Nat
  | .ties _ _ => 0
  | .cut _ a b => max a.dep b.dep + 1
section
variable {n : Int} {ws : List (Int × Int)} {us : List Int}
theorem load_le {e : Int} : ∀ i, loadTo n ws us e i ≤ i
  | 0 => by simp [loadTo]
  | i + 1 => by
    have := load_le (e := e) i
    have b : b2i (onB n (ws.getD i (0, 0)) (us.getD i 0) e) ≤ 1 := by unfold b2i; split <;> omega
    simp only [loadTo]
    omega
theorem b2i_nonneg (b : Bool) : 0 ≤ b2i b := by cases b <;> decide
theorem load_mono {e : Int} : ∀ {i j : Nat}, i ≤ j → loadTo n ws us e i ≤ loadTo n ws us e j := by
  intro i j h
  induction h with
  | refl => exact Int.le_refl _
  | step h ih =>
    simp only [loadTo]
    exact Int.le_trans ih (by rename_i m; have := b2i_nonneg (onB n (ws.getD m (0, 0)) (us.getD m 0) e); omega)
theorem on_start {w : Int × Int} {u : Int} (hw : isWay (.ring n) w.1 w.2) : ∃ e, (0 ≤ e ∧ e < n) ∧ onB n w u e = true := by
  obtain ⟨h1, h2, h3, h4, h5⟩ := hw
  have h4' : w.1 < n := h4
  have h5' : w.2 < n := h5
  unfold onB turnW
  by_cases c : u = 1
  · rw [if_pos c]
    refine ⟨w.2, ⟨h3, h5'⟩, decide_eq_true ⟨h3, h5', ?_⟩⟩
    unfold up
    rw [if_pos (Int.le_refl _)]
    split <;> omega
  · rw [if_neg c]
    refine ⟨w.1, ⟨h2, h4'⟩, decide_eq_true ⟨h2, h4', ?_⟩⟩
    unfold up
    rw [if_pos (Int.le_refl _)]
    split <;> omega
/-- some tie bears a way -/
theorem load_pos (hw : ∀ w ∈ ws, isWay (.ring n) w.1 w.2) (h0 : 0 < ws.length) : ∃ e, (0 ≤ e ∧ e < n) ∧ 1 ≤ loadTo n ws us e ws.length := by
  obtain ⟨e, he, h1⟩ := on_start (u := us.getD 0 0) (hw (ws.getD 0 (0, 0)) (by rw [List.getD_eq_getElem?_getD, List.getElem?_eq_getElem h0]; exact List.getElem_mem _))
  refine ⟨e, he, ?_⟩
  have h2 : loadTo n ws us e 1 ≤ loadTo n ws us e ws.length := load_mono (by omega)
  have h3 : loadTo n ws us e 1 = 1 := by simp only [loadTo]; rw [h1]; rfl
  omega
/-- the law's count is the load -/
theorem cnt_turn {t : Int} (hl : us.length = ws.length) : ∀ i, i ≤ ws.length → (cnt (.ring n) ((turnAll ws us).take i) t : Int) = loadTo n ws us t i
  | 0, _ => by simp [cnt, loadTo]
  | i + 1, hi => by
    have ih := cnt_turn (t := t) hl i (by omega)
    have hw : (turnAll ws us)[i]? = some (turnW (ws.getD i (0, 0)) (us.getD i 0)) := by
      unfold turnAll
      rw [List.getElem?_zipWith, List.getElem?_eq_getElem (show i < ws.length by omega), List.getElem?_eq_getElem (show i < us.length by omega)]
      simp [List.getD_eq_getElem?_getD, List.getElem?_eq_getElem (show i < ws.length by omega), List.getElem?_eq_getElem (show i < us.length by omega)]
    rw [cnt_take hw]
    simp only [loadTo]
    rw [← ih, Int.natCast_add]
    congr 1
    unfold onB b2i
    by_cases c : OnTie (.ring n) (turnW (ws.getD i (0, 0)) (us.getD i 0)).1 (turnW (ws.getD i (0, 0)) (us.getD i 0)).2 t
    · rw [if_pos c, if_pos (decide_eq_true c)]; rfl
    · rw [if_neg c, if_neg (by simpa using c)]; rfl
theorem cnt_all {t : Int} (hl : us.length = ws.length) : (cnt (.ring n) (turnAll ws us) t : Int) = loadTo n ws us t ws.length := by
  have := cnt_turn (n := n) (t := t) hl ws.length (Nat.le_refl _)
  rwa [List.take_of_length_le (by unfold turnAll; rw [List.length_zipWith]; omega)] at this
/-- what load tells of the turned ways -/
def IsL (n : Int) (ws : List (Int × Int)) (us : List Int) (m : Int) : Prop := (∃ e, (0 ≤ e ∧ e < n) ∧ loadTo n ws us e ws.length = m) ∧ ∀ e, 0 ≤ e → e < n → loadTo n ws us e ws.length ≤ m
theorem isL_of {m : Int} (hn : 3 ≤ n) (hl : us.length = ws.length) (h1 : m ∈ loadsOf (.ring n) (turnAll ws us)) (h2 : ∀ y ∈ loadsOf (.ring n) (turnAll ws us), y ≤ m) : IsL n ws us m := by
  unfold loadsOf at h1 h2
  obtain ⟨t, ht, e⟩ := List.mem_map.mp h1
  have ht' : t < n.toNat := List.mem_range.mp ht
  refine ⟨⟨t, ⟨by omega, by omega⟩, by rw [← cnt_all hl]; exact e⟩, fun e h3 h4 => ?_⟩
  rw [← cnt_all hl]
  have := h2 _ (List.mem_map_of_mem (f := fun t : Nat => (cnt (.ring n) (turnAll ws us) (t : Nat) : Int)) (List.mem_range.mpr (show e.toNat < n.toNat by omega)))
  rwa [Int.toNat_of_nonneg h3] at this
theorem IsL.one {m k : Int} (h : IsL n ws us m) (h' : IsL n ws us k) : m = k := by
  obtain ⟨⟨e, he, a⟩, b⟩ := h
  obtain ⟨⟨f, hf, c⟩, d⟩ := h'
  have := d e he.1 he.2
  have := b f hf.1 hf.2
  omega
/-- a short way on a tie misses the tie half round -/
theorem short_miss {w : Int × Int} {e : Int} (hn : 3 ≤ n) (hw : isWay (.ring n) w.1 w.2) (e0 : 0 ≤ e ∧ e < n) (h : onB n w (short n w) e = true) : onB n w (short n w) ((e + n / 2) % n) = false := by
  obtain ⟨h1, h2, h3, h4, h5⟩ := hw
  have h4' : w.1 < n := h4
  have h5' : w.2 < n := h5
  have em : (e + n / 2) % n = if e + n / 2 < n then e + n / 2 else e + n / 2 - n := by
    split
    · exact Int.emod_eq_of_lt (by omega) (by omega)
    · rw [← Int.sub_emod_right]; exact Int.emod_eq_of_lt (by omega) (by omega)
  rw [em]
  have hh : n / 2 * 2 ≤ n ∧ n < n / 2 * 2 + 2 := by omega
  generalize n / 2 = q at hh ⊢
  unfold onB turnW short at *
  have c0 : n < 2 * up n w.1 w.2 ∨ ¬ n < 2 * up n w.1 w.2 := by omega
  rcases c0 with c0 | c0
  · rw [if_pos c0, if_pos rfl] at h ⊢
    obtain ⟨a1, a2, a3⟩ := of_decide_eq_true h
    refine decide_eq_false ?_
    rintro ⟨b1, b2, b3⟩
    unfold up at c0 a3 b3
    generalize hf : (if e + q < n then e + q else e + q - n) = f at b1 b2 b3
    repeat' split at hf
    all_goals repeat' split at c0
    all_goals repeat' split at a3
    all_goals repeat' split at b3
    all_goals omega
  · rw [if_neg c0, if_neg (show ¬ (0 : Int) = 1 by decide)] at h ⊢
    obtain ⟨a1, a2, a3⟩ := of_decide_eq_true h
    refine decide_eq_false ?_
    rintro ⟨b1, b2, b3⟩
    unfold up at c0 a3 b3
    generalize hf : (if e + q < n then e + q else e + q - n) = f at b1 b2 b3
    repeat' split at hf
    all_goals repeat' split at c0
    all_goals repeat' split at a3
    all_goals repeat' split at b3
    all_goals omega
theorem short_01 (w : Int × Int) : short n w = 0 ∨ short n w = 1 := by unfold short; split <;> simp
theorem short_sum {e : Int} (hn : 3 ≤ n) (hw : ∀ w ∈ ws, isWay (.ring n) w.1 w.2) (e0 : 0 ≤ e ∧ e < n) : ∀ i, i ≤ ws.length → loadTo n ws (ws.map (short n)) e i ≤ sumTo n ws [] e ((e + n / 2) % n) i
  | 0, _ => by simp [sumTo, loadTo]
  | i + 1, hi => by
    have ih := short_sum hn hw e0 i (by omega)
    have f0 : 0 ≤ (e + n / 2) % n ∧ (e + n / 2) % n < n := ⟨Int.emod_nonneg _ (by omega), Int.emod_lt_of_pos _ (by omega)⟩
    have hi' : i < ws.length := by omega
    have hg : ws.getD i (0, 0) = ws[i] := by rw [List.getD_eq_getElem?_getD, List.getElem?_eq_getElem hi']; rfl
    have hs : (ws.map (short n)).getD i 0 = short n ws[i] := by rw [List.getD_eq_getElem?_getD, List.getElem?_map, List.getElem?_eq_getElem hi']; rfl
    have wi := hw _ (List.getElem_mem hi')
    simp only [loadTo, sumTo, hg, hs, look_nil, wt]
    have a := onB_turn hn wi e0.1 e0.2
    have b := onB_turn hn wi f0.1 f0.2
    have key : b2i (onB n ws[i] (short n ws[i]) e) ≤ if onB n ws[i] 0 e = onB n ws[i] 0 ((e + n / 2) % n) then 0 else 1 := by
      cases c : onB n ws[i] (short n ws[i]) e with
      | false => rw [show b2i false = 0 from rfl]; split <;> omega
      | true =>
        have d := short_miss hn wi e0 c
        rw [if_neg]
        · decide
        · rcases short_01 (n := n) ws[i] with z | z
          · rw [z] at c d; rw [c, d]; decide
          · rw [z] at c d
            rw [a] at c
            rw [b] at d
            intro y
            rw [y] at c
            rw [c] at d
            cases d
    omega
/-- the short turning bears at most twice what any does -/
theorem short_twice {m k : Int} (hn : 3 ≤ n) (hw : ∀ w ∈ ws, isWay (.ring n) w.1 w.2) (hu : T01 us) (h : IsL n ws us m) (hs : IsL n ws (ws.map (short n)) k) : k ≤ 2 * m := by
  obtain ⟨⟨e, he, rfl⟩, _⟩ := hs
  have f0 : 0 ≤ (e + n / 2) % n ∧ (e + n / 2) % n < n := ⟨Int.emod_nonneg _ (by omega), Int.emod_lt_of_pos _ (by omega)⟩
  have h1 := short_sum hn hw he ws.length (Nat.le_refl _)
  have h2 := sum_le (ss := []) hn hw he f0 hu.get (fun i v _ z => by cases z) ws.length (Nat.le_refl _)
  have h3 := h.2 e he.1 he.2
  have h4 := h.2 _ f0.1 f0.2
  omega
end
theorem turn_ok {n : Int} : ∀ {ws : List (Int × Int)} {us : List Int}, (∀ w ∈ ws, isWay (.ring n) w.1 w.2) → ∀ w ∈ turnAll ws us, isWay (.ring n) w.1 w.2
  | [], _, _, w, h => by cases h
  | _ :: _, [], _, w, h => by cases h
  | a :: ws, u :: us, hw, w, h => by
    rcases List.mem_cons.mp (show w ∈ turnW a u :: turnAll ws us from h) with rfl | h
    · obtain ⟨h1, h2, h3, h4, h5⟩ := hw a List.mem_cons_self
      unfold turnW
      split
      · exact ⟨fun z => h1 z.symm, h3, h2, h5, h4⟩
      · exact ⟨h1, h2, h3, h4, h5⟩
    · exact turn_ok (fun w hw' => hw w (List.mem_cons_of_mem _ hw')) w h
theorem turn_len {ws : List (Int × Int)} {us : List Int} (h : us.length = ws.length) : (turnAll ws us).length = ws.length := by unfold turnAll; rw [List.length_zipWith]; omega
theorem T01.ok {ws : List (Int × Int)} {us : List Int} (h : T01 us) (hl : us.length = ws.length) : TurnOk ws us := ⟨hl, fun u hu => by rcases h u hu with z | z <;> omega⟩
theorem short_T {n : Int} (ws : List (Int × Int)) : T01 (ws.map (short n)) := fun u hu => by
  obtain ⟨w, _, rfl⟩ := List.mem_map.mp hu
  exact short_01 w
/-- a right paper: no turning bears as little -/
theorem least_of {n m k : Int} {ws : List (Int × Int)} {vs : List Int} {P : Pap} (hn : 3 ≤ n) (hw : ∀ w ∈ ws, isWay (.ring n) w.1 w.2) (hP : PapOk n ws (m - 1) [] P) (tv : T01 vs) (hk : IsL n ws vs k) : m ≤ k := by
  obtain ⟨e, he, h⟩ := pap_bars hn hw tv.get hP (fun i v _ z => by cases z)
  have := hk.2 e he.1 he.2
  omega
/-! ### the judge of turn papers -/
def tieD (n : Int) (d : PyData) : Bool := wholeD d && decide (0 ≤ intD d) && decide (intD d < n)
def isTies : PyData → Bool
  | .str s => decide (s = Str.ofString "ties")
  | _ => false
def papJ (n : Int) (ws : List (Int × Int)) (m : Int) : Nat → List (Int × Int) → PyData → Bool
  | d + 1, ss, .tuple [a, b, c] =>
    if isD "str" a = true then (tieD n b && tieD n c) && (isTies a && decide (2 * m < sumF n ws ss (intD b) (intD c)))
    else (wholeD a && decide (0 ≤ intD a) && decide (intD a < ws.length) && (lookS ss (intD a)).isNone) && (papJ n ws m d (ss ++ [(intD a, 0)]) b && papJ n ws m d (ss ++ [(intD a, 1)]) c)
  | _, _, _ => false
theorem papJ_not {n : Int} {ws : List (Int × Int)} {m : Int} {d : Nat} {ss : List (Int × Int)} {D : PyData} (h : isD "tuple" D = false) : papJ n ws m d ss D = false := by
  cases d with
  | zero => rfl
  | succ d => cases D <;> first | rfl | (simp [isD, tyD] at h)
theorem papJ_len {n : Int} {ws : List (Int × Int)} {m : Int} {d : Nat} {ss : List (Int × Int)} {ds : List PyData} (h : ds.length ≠ 3) : papJ n ws m d ss (.tuple ds) = false := by
  cases d with
  | zero => rfl
  | succ d =>
    match ds, h with
    | [], _ => rfl
    | [_], _ => rfl
    | [_, _], _ => rfl
    | [_, _, _], h => exact absurd rfl h
    | _ :: _ :: _ :: _ :: _, _ => rfl
/-- ways that are not settled -/
def fr (ws ss : List (Int × Int)) : Nat := (List.range ws.length).countP fun i : Nat => (lookS ss (i : Int)).isNone
theorem fr_lt {ws ss : List (Int × Int)} {k u : Int} (k0 : 0 ≤ k) (k1 : k < ws.length) (h : lookS ss k = none) : fr ws (ss ++ [(k, u)]) < fr ws ss := by
  refine countP_lt (fun i _ hi => ?_) ⟨k.toNat, List.mem_range.mpr (by omega), ?_, ?_⟩
  · rw [look_add h] at hi
    split at hi
    · cases hi
    · exact hi
  · rw [Int.toNat_of_nonneg k0, h]; rfl
  · rw [look_add h, Int.toNat_of_nonneg k0, if_pos rfl]; rfl
theorem fr_nil (ws : List (Int × Int)) : fr ws [] = ws.length := by
  show (List.range ws.length).countP (fun _ => true) = ws.length
  rw [List.countP_true, List.length_range]
theorem pap_J {n : Int} {ws : List (Int × Int)} {m : Int} : ∀ {P : Pap} {d : Nat} {ss : List (Int × Int)}, PapOk n ws m ss P → P.dep < d → papJ n ws m d ss P.d = true
  | .ties e f, d + 1, ss, h, _ => by
    obtain ⟨⟨e0, e1⟩, ⟨f0, f1⟩, h⟩ := h
    simp [Pap.d, papJ, isD, tyD, tieD, wholeD, intD, isTies, e0, e1, f0, f1, h]
  | .cut k a b, d + 1, ss, h, hd => by
    obtain ⟨k0, k1, kn, ha, hb⟩ := h
    have hd' : max a.dep b.dep < d := by simp only [Pap.dep] at hd; omega
    have ia := pap_J (d := d) ha (by omega)
    have ib := pap_J (d := d) hb (by omega)
    simp [Pap.d, papJ, isD, tyD, wholeD, intD, k0, k1, kn, ia, ib]
/-- a paper that is let by bars every turning -/
theorem papJ_bars {n : Int} {ws : List (Int × Int)} {m : Int} {us : List Int} (hn : 3 ≤ n) (hw : ∀ w ∈ ws, isWay (.ring n) w.1 w.2) (hu : ∀ i : Nat, us.getD i 0 = 0 ∨ us.getD i 0 = 1) : ∀ {d : Nat} {ss : List (Int × Int)} {D : PyData}, papJ n ws m d ss D = true → (∀ (i : Nat) v, i < ws.length → lookS ss (i : Int) = some v → us.getD i 0 = v) → ∃ e, (0 ≤ e ∧ e < n) ∧ m < loadTo n ws us e ws.length
  | 0, ss, D, h, _ => by cases h
  | d + 1, ss, D, h, ag => by
    match D, h with
    | .tuple [a, b, c], h =>
      unfold papJ at h
      by_cases cs : isD "str" a = true
      · rw [if_pos cs] at h
        simp only [Bool.and_eq_true, tieD, decide_eq_true_eq] at h
        obtain ⟨⟨⟨⟨_, e0⟩, e1⟩, ⟨_, f0⟩, f1⟩, _, h⟩ := h
        exact pap_bars hn hw hu (p := .ties (intD b) (intD c)) ⟨⟨e0, e1⟩, ⟨f0, f1⟩, h⟩ ag
      · rw [if_neg cs] at h
        simp only [Bool.and_eq_true, decide_eq_true_eq] at h
        obtain ⟨⟨⟨⟨_, k0⟩, k1⟩, kn⟩, ha, hb⟩ := h
        have kn' : lookS ss (intD a) = none := by
          cases z : lookS ss (intD a) with
          | none => rfl
          | some v => rw [z] at kn; cases kn
        rcases hu (intD a).toNat with hk | hk
        · refine papJ_bars hn hw hu ha (fun i v hi hv => ?_)
          rw [look_add kn'] at hv
          split at hv
          · rename_i e; cases hv; have e' : i = (intD a).toNat := by omega
            rw [e']; exact hk
          · exact ag i v hi hv
        · refine papJ_bars hn hw hu hb (fun i v hi hv => ?_)
          rw [look_add kn'] at hv
          split at hv
          · rename_i e; cases hv; have e' : i = (intD a).toNat := by omega
            rw [e']; exact hk
          · exact ag i v hi hv
/-! ### which pair, which turning, which paper is told -/
def heavy (n : Int) (ws ss : List (Int × Int)) (m : Int) (p : Int × Int) : Bool := decide (p.1 ≤ p.2) && decide (2 * m < sumF n ws ss p.1 p.2)
def hpF (n : Int) (ws ss : List (Int × Int)) (ts : List Int) (m : Int) : Option (Int × Int) := (ts.flatMap fun e => ts.map fun f => (e, f)).find? (heavy n ws ss m)
theorem find_grid {α : Type} {p : α × α → Bool} {L1 L2 T1 T2 : List α} {e f : α} (h : p (e, f) = true) (h1 : ∀ a ∈ L1, ∀ b ∈ T1 ++ f :: T2, p (a, b) = false) (h2 : ∀ b ∈ T1, p (e, b) = false) : ((L1 ++ e :: L2).flatMap fun a => (T1 ++ f :: T2).map fun b => (a, b)).find? p = some (e, f) := by
  rw [List.flatMap_append, List.find?_append]
  have z1 : (L1.flatMap fun a => (T1 ++ f :: T2).map fun b => (a, b)).find? p = none := by
    rw [List.find?_eq_none]
    intro q hq
    obtain ⟨a, ha, hq⟩ := List.mem_flatMap.mp hq
    obtain ⟨b, hb, rfl⟩ := List.mem_map.mp hq
    rw [h1 a ha b hb]; decide
  have z2 : (T1.map fun b => (e, b)).find? p = none := by
    rw [List.find?_eq_none]
    intro q hq
    obtain ⟨b, hb, rfl⟩ := List.mem_map.mp hq
    rw [h2 b hb]; decide
  rw [z1, Option.none_or, List.flatMap_cons, List.map_append, List.append_assoc, List.find?_append, z2, Option.none_or, List.map_cons, List.cons_append, List.find?_cons, h]
theorem split_at {α : Type} {l : List α} {i : Nat} {a : α} (h : l[i]? = some a) : l = l.take i ++ a :: l.drop (i + 1) := by
  have hi := (List.getElem?_eq_some_iff.mp h).1
  have e := (List.getElem?_eq_some_iff.mp h).2
  rw [← e, List.getElem_cons_drop, List.take_append_drop]
section
variable {n : Int} {ws ss : List (Int × Int)} {ts : List Int} {m : Int}
theorem hp_none (h : ∀ e ∈ ts, ∀ f ∈ ts, e ≤ f → sumF n ws ss e f ≤ 2 * m) : hpF n ws ss ts m = none := by
  unfold hpF
  rw [List.find?_eq_none]
  intro p hp
  obtain ⟨e, he, hp⟩ := List.mem_flatMap.mp hp
  obtain ⟨f, hf, rfl⟩ := List.mem_map.mp hp
  have := h e he f hf
  unfold heavy
  simp
  exact this
theorem hp_some {i j : Nat} {e f : Int} (he : ts[i]? = some e) (hf : ts[j]? = some f) (hv : e ≤ f) (hs : 2 * m < sumF n ws ss e f) (b1 : ∀ a ∈ ts.take i, ∀ b ∈ ts, a ≤ b → sumF n ws ss a b ≤ 2 * m) (b2 : ∀ b ∈ ts.take j, e ≤ b → sumF n ws ss e b ≤ 2 * m) : hpF n ws ss ts m = some (e, f) := by
  have g : ∀ {a b : Int}, (a ≤ b → sumF n ws ss a b ≤ 2 * m) → heavy n ws ss m (a, b) = false := fun {a b} h => by
    show (decide (a ≤ b) && decide (2 * m < sumF n ws ss a b)) = false
    by_cases c : a ≤ b
    · rw [decide_eq_true c, decide_eq_false (by have := h c; omega)]; rfl
    · rw [decide_eq_false c]; rfl
  have z := find_grid (p := heavy n ws ss m) (L1 := ts.take i) (L2 := ts.drop (i + 1)) (T1 := ts.take j) (T2 := ts.drop (j + 1)) (e := e) (f := f) (by unfold heavy; simp [hv, hs]) (fun a ha b hb => g (b1 a ha b (by rw [← split_at hf] at hb; exact hb))) (fun b hb => g (b2 b hb))
  rw [← split_at he, ← split_at hf] at z
  exact z
end
/-- the turning or the paper that is told where so many ways are left -/
def topF (n : Int) (ws : List (Int × Int)) (ts : List Int) (m : Int) : Nat → List Int → Sum (List Int) Pap
  | 0, us => match hpF n ws (ssOf us) ts m with
    | some p => .inr (.ties p.1 p.2)
    | none => .inl us
  | d + 1, us => match hpF n ws (ssOf us) ts m with
    | some p => .inr (.ties p.1 p.2)
    | none => match topF n ws ts m d (us ++ [0]) with
      | .inl u => .inl u
      | .inr a => match topF n ws ts m d (us ++ [1]) with
        | .inl u => .inl u
        | .inr b => .inr (.cut us.length a b)
def markT (n : Int) (ws : List (Int × Int)) (t : Int) : List Bool := (List.range ws.length).map fun i => onB n (ws.getD i (0, 0)) 0 t
def unlF (n : Int) (ws : List (Int × Int)) : Nat → List Int
  | 0 => []
  | i + 1 => if markT n ws (i : Nat) ∈ (unlF n ws i).map (markT n ws) then unlF n ws i else unlF n ws i ++ [((i : Nat) : Int)]


abbrev bothD (ls : List (List Int × List Int)) : PyData := .list (ls.map fun l => .tuple [dInts l.1, dInts l.2])
/-- what lying tells -/
structure Both (n : Int) (ws : List (Int × Int)) (ls : List (List Int × List Int)) : Prop where
  len : ls.length = ws.length
  mem : ∀ (i : Nat) l, ls[i]? = some l → ∀ t, (t ∈ l.1 ↔ onB n (ws.getD i (0, 0)) 0 t = true) ∧ (t ∈ l.2 ↔ onB n (ws.getD i (0, 0)) 1 t = true)
  sml : ∀ l ∈ ls, l.1.length ≤ 1000 ∧ l.2.length ≤ 1000
def pr_lying (K : PySem.W.Frag) (v0 v1 : V) (H : Hp) (Q : VK) (_ : XK) : Prop := ∃ (n : Int) (ws : List (Int × Int)) (S : List Addr), Dp K H v0 (Net.ring n).d ∧ (Net.ring n).ok ∧ Dp K H v1 (dPairs ws) ∧ ws.length ≤ 1000 ∧ (∀ w ∈ ws, isWay (.ring n) w.1 w.2) ∧ (∀ x ∈ S, H x ≠ none) ∧
  ∀ p ls H', H p = none → Same H H' → Dp K (hid S H') (.ref p) (bothD ls) → Both n ws ls → Q (.ref p) H'
def t_lying (K : PySem.W.Frag) : TS :=
  (tRet (tLc (iList K (tVar 1)) (gName 2) tYes (tTup (tCons (tCall (sp_ties_on K) [] E0 (tCons (tVar 0) (tCons (tVar 2) tNil))) (tCons (tCall (sp_ties_on K) [] E0 (tCons (tVar 0) (tCons (tTup (tCons (tOp (rIxT K) (tVar 2) (tC (.int 1))) (tCons (tOp (rIxT K) (tVar 2) (tC (.int 0))) tNil))) tNil))) tNil))) [2]))
theorem pure_lying {v0 v1 : V} {H : Hp} {Q : VK} {E : XK} (hh : pr_lying K v0 v1 H Q E) : t_lying K ⟨fun _ H' => Q .non H', Q, fun _ _ => False, fun _ _ => False⟩ [some v0, some v1, none] H := by
  obtain ⟨n, ws, S, d0, ok, d1, hz, hw, hS, q⟩ := hh
  obtain ⟨b, ys, rfl, hb, dys⟩ := dp_list d1
  have ly : ys.length = ws.length := by rw [dpa_len dys, List.length_map]
  have fS : ∀ {H1 : Hp} {p : Addr}, Same H H1 → H1 p = none → p ∉ S := fun s np z => hS _ z (s.free np)
  unfold t_lying
  wtm_at "s"
  refine ⟨b, rfl, ⟨ys, hb⟩, fun D nD => lc_list (xs := ys) (fun i H1 => Same H H1 ∧ ∃ zs ls, H1 D = some (.lst zs) ∧ zs.length = i ∧ DpAll K (hid (D :: S) H1) zs (List.map (fun l : List Int × List Int => PyData.tuple [dInts l.1, dInts l.2]) ls) ∧ ls.length = i ∧ ∀ (j : Nat) l, ls[j]? = some l → TiesOf (.ring n) (ws.getD j (0, 0)).1 (ws.getD j (0, 0)).2 l.1 ∧ TiesOf (.ring n) (ws.getD j (0, 0)).2 (ws.getD j (0, 0)).1 l.2) ⟨same_new nD, [], [], upd_same, rfl, .nil, rfl, fun j l z => by simp at z⟩ (fun i H1 _ e => e.1.seq hb) ?_ ?_⟩
  · rintro i x H1 hx ⟨s1, zs, ls, eD, lz, dz, ll, tl⟩
    have hi : i < ys.length := (List.getElem?_eq_some_iff.mp hx).1
    obtain ⟨w, c, hw1, rfl, hc⟩ := dpairs_get dys hx
    have hwi := hw w (List.mem_of_getElem? hw1)
    have gw : ws.getD i (0, 0) = w := by rw [List.getD_eq_getElem?_getD, hw1]; rfl
    have hwb : isWay (.ring n) w.2 w.1 := ⟨fun z => hwi.1 z.symm, hwi.2.2.1, hwi.2.1, hwi.2.2.2.2, hwi.2.2.2.1⟩
    have hc1 := same_seqT s1 hc
    wtm_at "s"
    refine ⟨_, _, rfl, .ring n, w.1, w.2, dp_same s1 d0, dp_of_pair hc1, ok, hwi, fun p1 ns1 H2 np1 s2 e2 t2 => ?_⟩
    have hc2 := same_seqT s2 hc1
    wtm_at "s"
    refine kT (by simp) (fun p2 H3 np2 s3 e3 => ?_)
    wtm_at "s"
    refine ⟨_, _, rfl, .ring n, w.2, w.1, dp_same (s1.trans (s2.trans s3)) d0, dp_of_pair (stp e3), ok, hwb, fun p3 ns3 H4 np3 s4 e4 t4 => ?_⟩
    wtm_at "s"
    refine kT (by simp) (fun p4 H5 np4 s5 e5 => ?_)
    have s15 := s2.trans (s3.trans (s4.trans s5))
    have nS : ∀ {H6 : Hp} {p : Addr}, Same H1 H6 → H6 p = none → p ∉ D :: S := fun s np z => by
      rcases List.mem_cons.mp z with z | z
      · have := s _ _ eD
        rw [← z, np] at this; cases this
      · exact fS (s1.trans s) np z
    refine ⟨zs, s15 _ _ eD, szl (by omega), same_mut (s1.trans s15) nD, zs ++ [.ref p4], ls ++ [(ns1, ns3)], upd_same, by simp [lz], ?_, by simp [ll], fun j l hl => ?_⟩
    · rw [hid_upd (by simp), List.map_append]
      have g4 : hid (D :: S) H5 p4 = some (.tup [.ref p1, .ref p3]) := by rw [hid_ne (nS (s2.trans (s3.trans s4)) np4)]; exact e5
      have g1 : hid (D :: S) H5 p1 = some (.lst (ns1.map V.int)) := by rw [hid_ne (nS (Same.refl _) np1)]; exact (s3.trans (s4.trans s5)) _ _ e2
      have g3 : hid (D :: S) H5 p3 = some (.lst (ns3.map V.int)) := by rw [hid_ne (nS (s2.trans s3) np3)]; exact s5 _ _ e4
      exact dpa_app (dpa_same (hid_mono s15) dz) (.cons (.tup (stp g4) (.cons (dp_of_ints (sl g1)) (.cons (dp_of_ints (sl g3)) .nil))) .nil)
    · by_cases cj : j < ls.length
      · rw [List.getElem?_append_left cj] at hl
        exact tl j l hl
      · rw [List.getElem?_append_right (by omega)] at hl
        have : j = i := by
          have := (List.getElem?_eq_some_iff.mp hl).1
          simp at this; omega
        subst this
        rw [ll, Nat.sub_self] at hl
        cases hl
        rw [gw]
        exact ⟨t2, t4⟩
  · rintro H1 ⟨s1, zs, ls, eD, lz, dz, ll, tl⟩
    refine q D ls H1 nD s1 (.lst (sl ?_) (dpa_same (hid_sub fun x hx => List.mem_cons_of_mem _ hx) dz)) ⟨by omega, fun j l hl t => ?_, fun l hl => ?_⟩
    · rw [hid_ne (fS (Same.refl _) nD)]; exact eD
    · obtain ⟨t1, t2⟩ := tl j l hl
      refine ⟨?_, ?_⟩
      · rw [t1.mem]; unfold onB turnW; rw [if_neg (by decide)]; simp
      · rw [t2.mem]; unfold onB turnW; rw [if_pos rfl]; simp
    · obtain ⟨j, hj⟩ := List.mem_iff_getElem?.mp hl
      obtain ⟨t1, t2⟩ := tl j l hj
      have f1 : (l.1.length : Int) = up n _ _ := t1.far
      have f2 : (l.2.length : Int) = up n _ _ := t2.far
      have n60 : n ≤ 60 := ok.2
      have hjw : j < ws.length := by have := (List.getElem?_eq_some_iff.mp hj).1; omega
      have hm : ws.getD j (0, 0) ∈ ws := by
        rw [List.getD_eq_getElem?_getD, List.getElem?_eq_getElem hjw]
        exact List.getElem_mem _
      obtain ⟨w1, w2, w3, w4, w5⟩ := hw _ hm
      have w4' : (ws.getD j (0, 0)).1 < n := w4
      have w5' : (ws.getD j (0, 0)).2 < n := w5
      unfold up at f1 f2
      constructor
      · split at f1 <;> omega
      · split at f2 <;> omega
abbrev sp_lying (K : PySem.W.Frag) : Sp := fun vs H Q E => ∃ v0 v1, vs = [v0, v1] ∧ pr_lying K v0 v1 H Q E
theorem ok_lying (T : Txt K mg A) : FnOk P w K mg base CX0 2 A.a_lying A.d_lying ["net", "ways"] (sp_lying K) := by
  refine T.F_lying.ok sc_lying (fun vs H Q E h => by obtain ⟨v0, v1, rfl, _⟩ := h; rfl) (fun cdv A0 outer s H vs Q E hr h => ?_)
  obtain ⟨v0, v1, rfl, h⟩ := h
  exact ⟨t_lying K, (pss_one (ps_ret (pe_lc (own := [("way", 2)]) (by rfl) sc_lying.nd (pi_list (pv 1)) (blkOk_by (own := [("way", 2)]) (N := ["net", "ways", "way"]) (sc := defScope s_lying) (by decide +kernel)) (fun _ _ _ _ _ => (pg_name (i := 2) sc_lying.nd rfl (Or.inl rfl))) (fun _ _ _ _ _ => pts_nil) (fun _ _ _ _ _ => (pe_tup (pa_cons (pe_call (ok_ties_on T) (hr.mono (by decide)) (by rfl) T.g_ties_on T.F_ties_on.kp T.b_ties_on .nil pass0 (pa_cons (pv 0) (pa_cons (pv 2) pa_nil))) (pa_cons (pe_call (ok_ties_on T) (hr.mono (by decide)) (by rfl) T.g_ties_on T.F_ties_on.kp T.b_ties_on .nil pass0 (pa_cons (pv 0) (pa_cons (pe_tup (pa_cons (pe_ix ix_tup (pv 2) pe_int (fun _ _ => rfl)) (pa_cons (pe_ix ix_tup (pv 2) pe_int (fun _ _ => rfl)) pa_nil))) pa_nil))) pa_nil))))))), pure_lying h⟩
def pr_settle (K : PySem.W.Frag) (v0 v1 v2 : V) (H : Hp) (Q : VK) (_ : XK) : Prop := ∃ (a : Addr) (ss : List (Int × Int)) (k u : Int), v0 = .ref a ∧ v1 = .int k ∧ v2 = .int u ∧ H a = some (.dK (dS ss)) ∧ lookS ss k = none ∧ ss.length ≤ 1000 ∧
  ∀ p H', H p = none → Same H H' → H' p = some (.dK (dS (ss ++ [(k, u)]))) → Q (.ref p) H'
def t_settle (K : PySem.W.Frag) : TS :=
  (tSeq (tAsg (tCB rDictD (tCons (tVar 0) tNil)) (gName 3))
    (tSeq (sDPut (tVar 3) (tVar 1) (tVar 2))
    (tRet (tVar 3))))
theorem pure_settle {v0 v1 v2 : V} {H : Hp} {Q : VK} {E : XK} (hh : pr_settle K v0 v1 v2 H Q E) : t_settle K ⟨fun _ H' => Q .non H', Q, fun _ _ => False, fun _ _ => False⟩ [some v0, some v1, some v2, none] H := by
  obtain ⟨a, ss, k, u, rfl, rfl, rfl, ha, hk, hl, q⟩ := hh
  unfold t_settle
  wtm_at "s"
  refine k_dictD ha (fun p H1 np s1 e1 => ?_)
  wtm_at "s"
  refine k_pD e1 (by unfold dS; simp; omega) ?_
  wtm_at "s"
  rw [dS_put hk]
  exact q p _ np (same_mut s1 np) upd_same
abbrev sp_settle (K : PySem.W.Frag) : Sp := fun vs H Q E => ∃ v0 v1 v2, vs = [v0, v1, v2] ∧ pr_settle K v0 v1 v2 H Q E
theorem ok_settle (T : Txt K mg A) : FnOk P w K mg base CX0 1 A.a_settle A.d_settle ["settled", "k", "turn"] (sp_settle K) := by
  refine T.F_settle.ok sc_settle (fun vs H Q E h => by obtain ⟨v0, v1, v2, rfl, _⟩ := h; rfl) (fun cdv A0 outer s H vs Q E hr h => ?_)
  obtain ⟨v0, v1, v2, rfl, h⟩ := h
  exact ⟨t_settle K, (pss_cons (ps_set (i := 3) sc_settle.nd rfl (Or.inl rfl) (pe_callTy q_dictD (by rfl) T.z_dict (by decide +kernel) (pa_cons (pv 0) pa_nil)))
      (pss_cons (ps_dput (Nat.lt_of_le_of_lt (Nat.add_le_add_left (by decide) _) hr.units) (pv 3) (pv 1) (pv 2) (by rfl))
      (pss_one (ps_ret (pv 3))))), pure_settle h⟩


theorem k_isiD {K : PySem.W.Frag} {H : Hp} {Q : VK} {p : Addr} {kvs : List (Key × V)} (e : H p = some (.dK kvs)) (h : Q (.bl true) H) : rIsi K [.ref p, .ty "dict"] H Q := k_isi (.base (.dK e)) (by decide +kernel) h
theorem k_isiDT {K : PySem.W.Frag} {H : Hp} {Q : VK} {p : Addr} {xs : List V} (e : SqT K H p xs) (h : Q (.bl false) H) : rIsi K [.ref p, .ty "dict"] H Q := by
  obtain ⟨t, rfl, ty⟩ := ty_tup e
  exact k_isi ty (by decide +kernel) h
theorem k_isiTT {K : PySem.W.Frag} {H : Hp} {Q : VK} {p : Addr} {xs : List V} (e : SqT K H p xs) (h : Q (.bl true) H) : rIsi K [.ref p, .ty "tuple"] H Q := by
  obtain ⟨t, rfl, ty⟩ := ty_tup e
  exact k_isi ty (by decide +kernel) h
theorem k_isiSI {K : PySem.W.Frag} {H : Hp} {Q : VK} {i : Int} (h : Q (.bl false) H) : rIsi K [.int i, .ty "str"] H Q := k_isi (.base (.int i)) (by decide +kernel) h
def SsOk (ss : List (Int × Int)) : Prop := ∀ k u, lookS ss k = some u → u = 0 ∨ u = 1
theorem SsOk.add {ss : List (Int × Int)} {k u : Int} (h : SsOk ss) (hk : lookS ss k = none) (hu : u = 0 ∨ u = 1) : SsOk (ss ++ [(k, u)]) := fun j v hv => by
  rw [look_add hk] at hv
  split at hv
  · cases hv; exact hu
  · exact h j v hv
theorem both_at {K : PySem.W.Frag} {H : Hp} {v : V} {n : Int} {ws : List (Int × Int)} {ls : List (List Int × List Int)} (d : Dp K H v (bothD ls)) (B : Both n ws ls) : ∃ b ys, v = .ref b ∧ SqL K H b ys ∧ ys.length = ws.length ∧ ∀ i : Nat, i < ws.length → ∃ l c p1 p2, ls[i]? = some l ∧ ys[i]? = some (.ref c) ∧ SqT K H c [.ref p1, .ref p2] ∧ SqL K H p1 (l.1.map V.int) ∧ SqL K H p2 (l.2.map V.int) ∧ (∀ t, decide (t ∈ l.1) = onB n (ws.getD i (0, 0)) 0 t) ∧ ∀ t, decide (t ∈ l.2) = onB n (ws.getD i (0, 0)) 1 t := by
  obtain ⟨b, ys, rfl, hb, dys⟩ := dp_list d
  have ly : ys.length = ls.length := by rw [dpa_len dys, List.length_map]
  refine ⟨b, ys, rfl, hb, by rw [ly, B.len], fun i hi => ?_⟩
  have hi2 : i < ls.length := by rw [B.len]; exact hi
  obtain ⟨v, hv, dv⟩ := dpa_get2 dys (i := i) (d := .tuple [dInts ls[i].1, dInts ls[i].2]) (by rw [List.getElem?_map, List.getElem?_eq_getElem hi2]; rfl)
  obtain ⟨c, x, y, rfl, hc, dx, dy⟩ := dp_tup2 dv
  obtain ⟨p1, rfl, h1⟩ := dp_ints dx
  obtain ⟨p2, rfl, h2⟩ := dp_ints dy
  have bm := B.mem i _ (List.getElem?_eq_getElem hi2)
  refine ⟨ls[i], c, p1, p2, List.getElem?_eq_getElem hi2, hv, hc, h1, h2, fun t => ?_, fun t => ?_⟩
  · rw [Bool.eq_iff_iff]; simpa using (bm t).1
  · rw [Bool.eq_iff_iff]; simpa using (bm t).2
def pr_sum_at (K : PySem.W.Frag) (v0 v1 v2 v3 : V) (H : Hp) (Q : VK) (_ : XK) : Prop := ∃ (n : Int) (ws : List (Int × Int)) (ls : List (List Int × List Int)) (ss : List (Int × Int)) (a : Addr) (e f : Int), Dp K H v0 (bothD ls) ∧ Both n ws ls ∧ ws.length ≤ 1000 ∧ v1 = .ref a ∧ H a = some (.dK (dS ss)) ∧ SsOk ss ∧ v2 = .int e ∧ v3 = .int f ∧ Q (.int (sumF n ws ss e f)) H
def t_sum_at (K : PySem.W.Frag) : TS :=
  (tSeq (tAsg (tC (.int 0)) (gName 4))
    (tSeq (tFor (iRng1 (tCons (tCB (rLenX K) (tCons (tVar 0) tNil)) tNil)) (gName 5)
      (tIfS (tB (tDIn (tVar 5) (tVar 1))) (tSeq (tAsg (tOp (rIxT K) (tOp (rIxL K) (tVar 0) (tVar 5)) (tDGet (tVar 1) (tVar 5))) (gName 6))
    (tAug 4 (tOp xAdd (tCB rIntOf (tCons (tOp (rIn K false) (tVar 2) (tVar 6)) tNil)) (tCB rIntOf (tCons (tOp (rIn K false) (tVar 3) (tVar 6)) tNil))) (ipI fun i j => i + j))) (tAug 4 (tCB rIntOf (tCons (tOp rNe (tOp (rIn K false) (tVar 2) (tOp (rIxT K) (tOp (rIxL K) (tVar 0) (tVar 5)) (tC (.int 0)))) (tOp (rIn K false) (tVar 3) (tOp (rIxT K) (tOp (rIxL K) (tVar 0) (tVar 5)) (tC (.int 0))))) tNil)) (ipI fun i j => i + j))))
    (tRet (tVar 4))))
theorem pure_sum_at {v0 v1 v2 v3 : V} {H : Hp} {Q : VK} {E : XK} (hh : pr_sum_at K v0 v1 v2 v3 H Q E) : t_sum_at K ⟨fun _ H' => Q .non H', Q, fun _ _ => False, fun _ _ => False⟩ [some v0, some v1, some v2, some v3, none, none, none] H := by
  obtain ⟨n, ws, ls, ss, a, e, f, d0, B, hz, rfl, ha, so, rfl, rfl, q⟩ := hh
  obtain ⟨b, ys, rfl, hb, ly, at_⟩ := both_at d0 B
  unfold t_sum_at
  wtm_at "s"
  refine forR (fun i σ' H' => H' = H ∧ ∃ s k5 k6, σ' = [some (.ref b), some (.ref a), some (.int e), some (.int f), some (.int s), k5, k6] ∧ s = sumTo n ws ss e f i) ⟨rfl, _, _, _, rfl, rfl⟩ ?_ ?_
  · rintro i σ' H1 hi ⟨rfl, s, k5, k6, rfl, hs⟩
    obtain ⟨l, c, p1, p2, hl, hv, hc, h1, h2, m1, m2⟩ := at_ i (by omega)
    rw [show (0 : Int) + (i : Nat) = (i : Nat) from Int.zero_add _]
    wtm_at "s"
    refine k_iD ha ?_
    rw [dS_val]
    have stp1 : sumTo n ws ss e f (i + 1) = sumTo n ws ss e f i + wt n (ws.getD i (0, 0)) (lookS ss (i : Int)) e f := rfl
    cases hk : lookS ss (i : Int) with
    | none =>
      rw [hk] at stp1
      simp only [Option.map_none, Option.isSome_none, Bool.false_eq_true, if_false]
      wtm_at "s"
      refine k_ixL hb (atI_nat hv) ?_
      wtm_at "s"
      refine k_ixL hb (atI_nat hv) ?_
      wtm_at "s"
      refine ⟨rfl, _, _, _, rfl, ?_⟩
      rw [stp1, m1, m1, hs]
      unfold wt
      congr 1
      cases onB n (ws.getD i (0, 0)) 0 e <;> cases onB n (ws.getD i (0, 0)) 0 f <;> rfl
    | some u =>
      rw [hk] at stp1
      simp only [Option.map_some, Option.isSome_some, Bool.false_eq_true, if_false]
      wtm_at "s"
      refine k_ixL hb (atI_nat hv) ?_
      wtm_at "s"
      refine k_gD1 (.inl ha) (by rw [dS_val, hk]; rfl) ?_
      rcases so _ _ hk with rfl | rfl
      · refine k_ixT hc (v := .ref p1) rfl ?_
        wtm_at "s"
        refine ⟨rfl, _, _, _, rfl, ?_⟩
        rw [stp1, m1, m1, hs]
        rfl
      · refine k_ixT hc (v := .ref p2) rfl ?_
        wtm_at "s"
        refine ⟨rfl, _, _, _, rfl, ?_⟩
        rw [stp1, m2, m2, hs]
        rfl
  · rintro σ' H1 ⟨rfl, s, k5, k6, rfl, hs⟩
    wtm_at "s"
    rw [ly, Int.toNat_natCast] at hs
    rw [hs]
    exact q
abbrev sp_sum_at (K : PySem.W.Frag) : Sp := fun vs H Q E => ∃ v0 v1 v2 v3, vs = [v0, v1, v2, v3] ∧ pr_sum_at K v0 v1 v2 v3 H Q E
theorem ok_sum_at (T : Txt K mg A) : FnOk P w K mg base CX0 1 A.a_sum_at A.d_sum_at ["both", "settled", "e", "f"] (sp_sum_at K) := by
  refine T.F_sum_at.ok sc_sum_at (fun vs H Q E h => by obtain ⟨v0, v1, v2, v3, rfl, _⟩ := h; rfl) (fun cdv A0 outer s H vs Q E hr h => ?_)
  obtain ⟨v0, v1, v2, v3, rfl, h⟩ := h
  exact ⟨t_sum_at K, (pss_cons (ps_set (i := 4) sc_sum_at.nd rfl (Or.inl rfl) pe_int)
      (pss_cons (ps_for PassesOwn.never rfl (pi_range1 (by rfl) T.z_range (pa_cons (pe_callB q_len (by rfl) T.z_len (by decide +kernel) (pa_cons (pv 0) pa_nil)) pa_nil)) (pg_name (i := 5) sc_sum_at.nd rfl (Or.inl rfl))
      (pss_one (ps_if (pt_cmp (pc_din (Nat.lt_of_le_of_lt (Nat.add_le_add_left (by decide) _) hr.units) (pv 5) (pv 1)) (by rfl)) (pss_cons (ps_set (i := 6) sc_sum_at.nd rfl (Or.inl rfl) (pe_ix ix_tup (pe_ix ix_list (pv 0) (pv 5) (fun _ _ => rfl)) (pe_dget (Nat.lt_of_le_of_lt (Nat.add_le_add_left (by decide) _) hr.units) (pv 1) (pv 5) (fun _ _ => rfl)) (fun _ _ => rfl)))
      (pss_one (ps_aug (i := 4) sc_sum_at.nd rfl (Or.inl rfl) (pe_op op_add (pe_callTy q_intB (by rfl) T.z_int (by decide +kernel) (pa_cons (pe_cmpR op_in_seq (pv 2) (pv 6) (by rfl)) pa_nil)) (pe_callTy q_intB (by rfl) T.z_int (by decide +kernel) (pa_cons (pe_cmpR op_in_seq (pv 3) (pv 6) (by rfl)) pa_nil))) ip_add))) (pss_one (ps_aug (i := 4) sc_sum_at.nd rfl (Or.inl rfl) (pe_callTy q_intB (by rfl) T.z_int (by decide +kernel) (pa_cons (pe_cmpR op_ne (pe_cmpR op_in_seq (pv 2) (pe_ix ix_tup (pe_ix ix_list (pv 0) (pv 5) (fun _ _ => rfl)) pe_int (fun _ _ => rfl)) (by rfl)) (pe_cmpR op_in_seq (pv 3) (pe_ix ix_tup (pe_ix ix_list (pv 0) (pv 5) (fun _ _ => rfl)) pe_int (fun _ _ => rfl)) (by rfl)) (nomark _)) pa_nil)) ip_add)))))
      (pss_one (ps_ret (pv 4))))), pure_sum_at h⟩


def pr_look_few (K : PySem.W.Frag) (v0 v1 v2 : V) (H : Hp) (Q : VK) (_ : XK) : Prop := ∃ (N : Net) (ws : List (Int × Int)) (m : Int), Dp K H v0 N.d ∧ N.ok ∧ Dp K H v1 (dPairs ws) ∧ ws.length ≤ 10000 ∧ (∀ w ∈ ws, isWay N w.1 w.2) ∧ v2 = .int m ∧ (ws.length : Int) ≤ m ∧ Q .non H
def t_look_few (K : PySem.W.Frag) : TS :=
  (tSeq (tDrop (tCall (sp_look_ways K) [] E0 (tCons (tVar 0) (tCons (tVar 1) tNil))))
    (tIfS (tTest (tOp xGt (tCB (rLenX K) (tCons (tVar 1) tNil)) (tVar 2))) tNever tNext))
theorem pure_look_few {v0 v1 v2 : V} {H : Hp} {Q : VK} {E : XK} (h : pr_look_few K v0 v1 v2 H Q E) : t_look_few K ⟨fun _ H' => Q .non H', Q, fun _ _ => False, fun _ _ => False⟩ [some v0, some v1, some v2] H := by
  obtain ⟨N, ws, m, hd, ok, hw, hz, hok, rfl, hm, q⟩ := h
  obtain ⟨b, ys, rfl, hb, dys⟩ := dp_list hw
  have ly : ys.length = ws.length := by rw [dpa_len dys, List.length_map]
  unfold t_look_few
  wtm_at "s"
  refine ⟨_, _, rfl, N, ws, hd, ok, hw, hz, hok, ?_⟩
  wtm_at "s"
  exact q
abbrev sp_look_few (K : PySem.W.Frag) : Sp := fun vs H Q E => ∃ v0 v1 v2, vs = [v0, v1, v2] ∧ pr_look_few K v0 v1 v2 H Q E
theorem ok_look_few (T : Txt K mg A) : FnOk P w K mg base CX0 5 A.a_look_few A.d_look_few ["net", "ways", "most"] (sp_look_few K) := by
  refine T.F_look_few.ok sc_look_few (fun vs H Q E h => by obtain ⟨v0, v1, v2, rfl, _⟩ := h; rfl) (fun cdv A0 outer s H vs Q E hr h => ?_)
  obtain ⟨v0, v1, v2, rfl, h⟩ := h
  exact ⟨t_look_few K, (pss_cons (ps_expr (pe_call (ok_look_ways T) (hr.mono (by decide)) (by rfl) T.g_look_ways T.F_look_ways.kp T.b_look_ways .nil pass0 (pa_cons (pv 0) (pa_cons (pv 1) pa_nil))))
      (pss_one (ps_if (pt_cmpR op_gt (pe_callB q_len (by rfl) T.z_len (by decide +kernel) (pa_cons (pv 1) pa_nil)) (pv 2) (nomark _)) (pss_one ps_never) pss_nil))), pure_look_few h⟩
def pr_heavy_pair (K : PySem.W.Frag) (v0 v1 v2 v3 : V) (H : Hp) (Q : VK) (_ : XK) : Prop := ∃ (n : Int) (ws : List (Int × Int)) (ls : List (List Int × List Int)) (ss : List (Int × Int)) (a c : Addr) (ts : List Int) (m : Int), Dp K H v0 (bothD ls) ∧ Both n ws ls ∧ ws.length ≤ 1000 ∧ v1 = .ref a ∧ H a = some (.dK (dS ss)) ∧ SsOk ss ∧ v2 = .ref c ∧ SqL K H c (ts.map V.int) ∧ v3 = .int m ∧ 0 ≤ m ∧ m ≤ 100000 ∧
  ((∀ e ∈ ts, ∀ f ∈ ts, e ≤ f → sumF n ws ss e f ≤ 2 * m) → Q .non H) ∧ ∀ p e f H', H p = none → Same H H' → H' p = some (.tup [.str (Str.ofString "ties"), .int e, .int f]) → e ∈ ts → f ∈ ts → 2 * m < sumF n ws ss e f → hpF n ws ss ts m = some (e, f) → Q (.ref p) H'
def t_heavy_pair (K : PySem.W.Frag) : TS :=
  (tSeq (tFor (iList K (tVar 2)) (gName 4)
      (tFor (iList K (tVar 2)) (gName 5)
      (tIfS (tAnd (tTest (tOp xLe (tVar 4) (tVar 5))) (tTest (tOp xGt (tCall (sp_sum_at K) [] E0 (tCons (tVar 0) (tCons (tVar 1) (tCons (tVar 4) (tCons (tVar 5) tNil))))) (tOp xMul (tC (.int 2)) (tVar 3))))) (tRet (tTup (tCons (tC (.str (Str.ofString "ties"))) (tCons (tVar 4) (tCons (tVar 5) tNil))))) tNext)))
    (tRet (tC .non)))
theorem pure_heavy_pair {v0 v1 v2 v3 : V} {H : Hp} {Q : VK} {E : XK} (hh : pr_heavy_pair K v0 v1 v2 v3 H Q E) : t_heavy_pair K ⟨fun _ H' => Q .non H', Q, fun _ _ => False, fun _ _ => False⟩ [some v0, some v1, some v2, some v3, none, none] H := by
  obtain ⟨n, ws, ls, ss, a, c, ts, m, d0, B, hz, rfl, ha, so, rfl, hc, rfl, m0, m1, qn, qp⟩ := hh
  obtain ⟨b, ys, rfl, hb, ly, at_⟩ := both_at d0 B
  clear at_
  unfold t_heavy_pair
  wtm_at "s"
  refine forL hc (fun i σ' H' => H' = H ∧ (∃ k4 k5, σ' = [some (.ref b), some (.ref a), some (.ref c), some (.int m), k4, k5]) ∧ ∀ e ∈ ts.take i, ∀ f ∈ ts, e ≤ f → sumF n ws ss e f ≤ 2 * m) ⟨rfl, ⟨_, _, rfl⟩, fun e z => by simp at z⟩ (fun i σ' H' _ z => z.1 ▸ hc) ?_ ?_
  · rintro i x σ' H1 hx ⟨rfl, ⟨k4, k5, rfl⟩, no⟩
    rw [List.getElem?_map] at hx
    obtain ⟨e, he, rfl⟩ := Option.map_eq_some_iff.mp hx
    have hem := List.mem_of_getElem? he
    wtm_at "s"
    refine forL hc (fun j σ' H' => H' = H1 ∧ (∃ k5, σ' = [some (.ref b), some (.ref a), some (.ref c), some (.int m), some (.int e), k5]) ∧ ∀ f ∈ ts.take j, e ≤ f → sumF n ws ss e f ≤ 2 * m) ⟨rfl, ⟨_, rfl⟩, fun e z => by simp at z⟩ (fun i σ' H' _ z => z.1 ▸ hc) ?_ ?_
    · rintro j x σ' H2 hx ⟨rfl, ⟨k5, rfl⟩, no2⟩
      rw [List.getElem?_map] at hx
      obtain ⟨f, hf, rfl⟩ := Option.map_eq_some_iff.mp hx
      have hfm := List.mem_of_getElem? hf
      have tk : ∀ g ∈ ts.take (j + 1), g ∈ ts.take j ∨ g = f := fun g hg => by
        rw [List.take_add_one, hf] at hg
        rcases List.mem_append.mp hg with z | z
        · exact .inl z
        · exact .inr (by simpa using z)
      wtm_at "s"
      refine k_it (fun c1 => ?_) (fun c1 => ?_)
      · wtm_at "s"
        refine ⟨_, _, _, _, rfl, n, ws, ls, ss, a, e, f, d0, B, hz, rfl, ha, so, rfl, rfl, ?_⟩
        wtm_at "s"
        refine k_it (fun c2 => ?_) (fun c2 => ?_)
        · wtm_at "s"
          refine kT (by simp) (fun p H3 np s3 e3 => ?_)
          exact qp p e f H3 np s3 e3 hem hfm c2 (hp_some he hf c1 c2 no no2)
        · wtm_at "s"
          refine ⟨rfl, ⟨_, rfl⟩, fun g hg lg => ?_⟩
          rcases tk g hg with z | rfl
          · exact no2 g z lg
          · omega
      · wtm_at "s"
        refine ⟨rfl, ⟨_, rfl⟩, fun g hg lg => ?_⟩
        rcases tk g hg with z | rfl
        · exact no2 g z lg
        · exact absurd lg c1
    · rintro σ' H2 ⟨rfl, ⟨k5, rfl⟩, no2⟩
      refine ⟨rfl, ⟨_, _, rfl⟩, fun g hg f hf lg => ?_⟩
      rw [List.take_of_length_le (by simp)] at no2
      rw [List.take_add_one, he] at hg
      rcases List.mem_append.mp hg with z | z
      · exact no g z f hf lg
      · obtain rfl : g = e := by simpa using z
        exact no2 f hf lg
  · rintro σ' H1 ⟨rfl, ⟨k4, k5, rfl⟩, no⟩
    rw [List.take_of_length_le (by simp)] at no
    wtm_at "s"
    exact qn no
abbrev sp_heavy_pair (K : PySem.W.Frag) : Sp := fun vs H Q E => ∃ v0 v1 v2 v3, vs = [v0, v1, v2, v3] ∧ pr_heavy_pair K v0 v1 v2 v3 H Q E
theorem ok_heavy_pair (T : Txt K mg A) : FnOk P w K mg base CX0 2 A.a_heavy_pair A.d_heavy_pair ["both", "settled", "ties", "m"] (sp_heavy_pair K) := by
  refine T.F_heavy_pair.ok sc_heavy_pair (fun vs H Q E h => by obtain ⟨v0, v1, v2, v3, rfl, _⟩ := h; rfl) (fun cdv A0 outer s H vs Q E hr h => ?_)
  obtain ⟨v0, v1, v2, v3, rfl, h⟩ := h
  exact ⟨t_heavy_pair K, (pss_cons (ps_for PassesOwn.never rfl (pi_list (pv 2)) (pg_name (i := 4) sc_heavy_pair.nd rfl (Or.inl rfl))
      (pss_one (ps_for PassesOwn.never rfl (pi_list (pv 2)) (pg_name (i := 5) sc_heavy_pair.nd rfl (Or.inl rfl))
      (pss_one (ps_if (PW.pt (pw_and (pt_cmpR op_le (pv 4) (pv 5) (nomark _)) (pw_and1 (pt_cmpR op_gt (pe_call (ok_sum_at T) (hr.mono (by decide)) (by rfl) T.g_sum_at T.F_sum_at.kp T.b_sum_at .nil pass0 (pa_cons (pv 0) (pa_cons (pv 1) (pa_cons (pv 4) (pa_cons (pv 5) pa_nil))))) (pe_op op_mul pe_int (pv 3)) (nomark _))))) (pss_one (ps_ret (pe_tup (pa_cons pe_str (pa_cons (pv 4) (pa_cons (pv 5) pa_nil)))))) pss_nil)))))
      (pss_one (ps_ret pe_non))), pure_heavy_pair h⟩
def dBs (bs : List Bool) : PyData := .list (bs.map PyData.bool)
theorem eqv_bools : ∀ bs cs : List Bool, PyData.eqv (dBs bs) (dBs cs) = decide (bs = cs)
  | [], [] => by simp [dBs, PyData.eqv, PyData.eqvAll]
  | [], c :: cs => by simp [dBs, PyData.eqv, PyData.eqvAll]
  | b :: bs, [] => by simp [dBs, PyData.eqv, PyData.eqvAll]
  | b :: bs, c :: cs => by
    have ih := eqv_bools bs cs
    simp only [dBs, PyData.eqv, List.map_cons] at ih ⊢
    rw [PyData.eqvAll, ih]
    by_cases h1 : b = c
    · subst h1
      by_cases h2 : bs = cs
      · cases b <;> simp [h2, PyData.eqv]
      · cases b <;> simp [h2, PyData.eqv]
    · cases b <;> cases c <;> first | exact absurd rfl h1 | simp [PyData.eqv]
theorem sh_bools {n : Nat} (bs : List Bool) : Sh (n + 1) (dBs bs) := sh_list fun d hd => by
  obtain ⟨b, _, rfl⟩ := List.mem_map.mp hd
  exact sh_bool
theorem dpa_bools {K : PySem.W.Frag} {H : Hp} : ∀ bs : List Bool, DpAll K H (bs.map V.bl) (bs.map PyData.bool)
  | [] => .nil
  | b :: r => .cons (.bl b) (dpa_bools r)
def pr_unlike_ties (K : PySem.W.Frag) (v0 v1 : V) (H : Hp) (Q : VK) (_ : XK) : Prop := ∃ (n : Int) (ws : List (Int × Int)) (ls : List (List Int × List Int)), Dp K H v0 (Net.ring n).d ∧ (Net.ring n).ok ∧ Dp K H v1 (bothD ls) ∧ Both n ws ls ∧ ws.length ≤ 1000 ∧
  ∀ p ts H', H p = none → Same H H' → H' p = some (.lst (List.map V.int ts)) → (∀ t ∈ ts, 0 ≤ t ∧ t < n) → (∀ t, 0 ≤ t → t < n → ∃ e ∈ ts, ∀ i : Nat, i < ws.length → onB n (ws.getD i (0, 0)) 0 e = onB n (ws.getD i (0, 0)) 0 t) → ts = unlF n ws n.toNat → Q (.ref p) H'
def t_unlike_ties (K : PySem.W.Frag) : TS :=
  (tSeq (tAsg (tLst tNil) (gName 2))
    (tSeq (tAsg (tLst tNil) (gName 3))
    (tSeq (tFor (iRng1 (tCons (tOp (rIxT K) (tVar 0) (tC (.int 1))) tNil)) (gName 4)
      (tSeq (tAsg (tLc (iList K (tVar 1)) (gName 6) tYes (tOp (rIn K false) (tVar 4) (tOp (rIxT K) (tVar 6) (tC (.int 0)))) [6]) (gName 5))
    (tIfS (tTest (tOp (rNotInD K) (tVar 5) (tVar 2))) (tSeq (tDrop (tBM K "list" rAppend (tVar 2) (tCons (tVar 5) tNil)))
    (tDrop (tBM K "list" rAppend (tVar 3) (tCons (tVar 4) tNil)))) tNext)))
    (tRet (tVar 3)))))
theorem pure_unlike_ties {v0 v1 : V} {H : Hp} {Q : VK} {E : XK} (hh : pr_unlike_ties K v0 v1 H Q E) : t_unlike_ties K ⟨fun _ H' => Q .non H', Q, fun _ _ => False, fun _ _ => False⟩ [some v0, some v1, none, none, none, none, none] H := by
  obtain ⟨n, ws, ls, d0, ok, d1, B, hz, q⟩ := hh
  obtain ⟨b, ys, rfl, hb, ly, at_⟩ := both_at d1 B
  obtain ⟨a, y, rfl, hs, hy⟩ := dp_net d0
  obtain rfl := dp_int hy
  have n3 : 3 ≤ n := ok.1
  have n60 : n ≤ 60 := ok.2
  unfold t_unlike_ties
  wtm_at "s"
  refine kL (by simp) (fun kn H1 nk s1 e1 => ?_)
  wtm_at "s"
  refine kL (by simp) (fun fo H2 nf s2 e2 => ?_)
  have hs2 := same_seqT (s1.trans s2) hs
  have kf : kn ≠ fo := fun z => by rw [← z, e1] at nf; cases nf
  wtm_at "s"
  refine forR (fun i σ' H' => Same H (hid [kn, fo] H') ∧ ∃ zs ts k4 k5 k6, σ' = [some (.ref a), some (.ref b), some (.ref kn), some (.ref fo), k4, k5, k6] ∧ H' kn = some (.lst zs) ∧ H' fo = some (.lst (List.map V.int ts)) ∧ DpAll K (hid [kn, fo] H') zs ((ts.map (markT n ws)).map dBs) ∧ ts.length ≤ i ∧ ts = unlF n ws i ∧ (∀ t ∈ ts, 0 ≤ t ∧ t < n) ∧ ∀ t, 0 ≤ t → t < (i : Int) → ∃ e ∈ ts, markT n ws e = markT n ws t)
    ⟨?_, [], [], _, _, _, rfl, s2 _ _ e1, e2, .nil, by simp, rfl, (fun t z => by cases z), fun t h1 h2 => by omega⟩ ?_ ?_
  · intro x o hx
    rw [hid_ne (fun z => by
      rcases List.mem_cons.mp z with rfl | z
      · rw [nk] at hx; cases hx
      · rw [List.mem_singleton.mp z, s1.free nf] at hx; cases hx)]
    exact (s1.trans s2) _ _ hx
  · clear e1 e2 s2 hs2
    rintro i σ' H3 hi ⟨s3, zs, ts, k4, k5, k6, rfl, ek, ef, dz, lt, tu, rg, al⟩
    have lz := dpa_len dz
    rw [List.length_map, List.length_map] at lz
    have s03 : Same H H3 := s3.trans (hid_same _ _)
    wtm_at "s"
    refine lc_pure (s03.seq hb) (List.range ws.length) (by rw [ly]; simp) (by simp; omega) (fun j => some (.bl (onB n (ws.getD j (0, 0)) 0 (0 + (i : Nat))))) ?_ (fun D H4 nD s4 eD => ?_)
    · intro j x p H' hx hp sm R R0 g1 g2
      have hj : j < ws.length := by rw [← ly]; exact (List.getElem?_eq_some_iff.mp hx).1
      obtain rfl : p = j := by rw [List.getElem?_range hj] at hp; cases hp; rfl
      obtain ⟨l, c, p1, p2, hl, hv, hc, h1, h2, m1, m2⟩ := at_ p hj
      rw [hv] at hx
      cases hx
      have hc' := same_seqT (s03.trans sm) hc
      have h1' := (s03.trans sm).seq h1
      wtm_at "s"
      rw [m1]
      exact g1 _ rfl
    · rw [fm_map] at eD
      have eD' : H4 D = some (.lst ((markT n ws (0 + (i : Nat))).map V.bl)) := by rw [eD]; unfold markT; rw [List.map_map]; rfl
      have nD' : D ∉ [kn, fo] := fun z => by
        rcases List.mem_cons.mp z with rfl | z
        · rw [ek] at nD; cases nD
        · rw [List.mem_singleton.mp z, ef] at nD; cases nD
      have dD : Dp K (hid [kn, fo] H4) (.ref D) (dBs (markT n ws (0 + (i : Nat)))) := .lst (sl (by rw [hid_ne nD']; exact eD')) (dpa_bools _)
      have dz4 := dpa_same (hid_mono (S := [kn, fo]) s4) dz
      have s04 : Same H (hid [kn, fo] H4) := s3.trans (hid_mono s4)
      wtm_at "s"
      refine ⟨_, _, dp_same (hid_same _ _) dD, .lst (sl (s4 _ _ ek)) (dpa_same (hid_same _ _) dz4), (sh_bools (n := 1) _).shaped (by decide), (sh_list (n := 2) fun d hd => ?_).shaped (by decide), ?_⟩
      · obtain ⟨bs, _, rfl⟩ := List.mem_map.mp hd
        exact sh_bools bs
      have ean : (((ts.map (markT n ws)).map dBs).any fun z => PyData.eqv z (dBs (markT n ws (0 + (i : Nat))))) = decide (markT n ws (0 + (i : Nat)) ∈ ts.map (markT n ws)) := by
        rw [Bool.eq_iff_iff, List.any_eq_true, decide_eq_true_eq]
        constructor
        · rintro ⟨z, hz, e⟩
          obtain ⟨bs, hbs, rfl⟩ := List.mem_map.mp hz
          rw [eqv_bools, decide_eq_true_eq] at e
          rw [← e]; exact hbs
        · intro h
          exact ⟨_, List.mem_map_of_mem h, by rw [eqv_bools, decide_eq_true_eq]⟩
      rw [ean]
      wtm_at "s"
      refine k_itn (fun c1 => ?_) (fun c1 => ?_)
      · wtm_at "s"
        refine k_tyL (sl (s4 _ _ ek)) ?_
        wtm_at "s"
        refine k_append (s4 _ _ ek) (by omega) ?_
        wtm_at "s"
        have ef' : upd H4 kn (.lst (zs ++ [.ref D])) fo = some (.lst (List.map V.int ts)) := by rw [upd_ne (fun z => kf z.symm)]; exact s4 _ _ ef
        refine k_tyL (sl ef') ?_
        wtm_at "s"
        refine k_append ef' (by simp; omega) ?_
        refine ⟨same_hid_upd (same_hid_upd s04 (by simp)) (by simp), zs ++ [.ref D], ts ++ [(0 : Int) + (i : Nat)], _, _, _, rfl, ?_, ?_, ?_, by simp; omega, by rw [Int.zero_add] at c1 ⊢; rw [unlF, ← tu, if_neg c1], fun t ht => ?_, fun t h1 h2 => ?_⟩
        · rw [upd_ne kf, upd_same]
        · rw [upd_same, List.map_append]; rfl
        · rw [hid_upd (by simp), hid_upd (by simp), List.map_append, List.map_append]
          exact dpa_app dz4 (.cons dD .nil)
        · rcases List.mem_append.mp ht with z | z
          · exact rg t z
          · have : t = 0 + (i : Nat) := by simpa using z
            omega
        · by_cases c2 : t < (i : Int)
          · obtain ⟨e, he, hm⟩ := al t h1 c2
            exact ⟨e, List.mem_append_left _ he, hm⟩
          · exact ⟨(0 : Int) + (i : Nat), List.mem_append_right _ (by simp), by congr 1; omega⟩
      · wtm_at "s"
        refine ⟨s04, zs, ts, _, _, _, rfl, s4 _ _ ek, s4 _ _ ef, dz4, by omega, by rw [Int.zero_add] at c1; rw [unlF, ← tu, if_pos c1], rg, fun t h1 h2 => ?_⟩
        by_cases c2 : t < (i : Int)
        · exact al t h1 c2
        · obtain ⟨e, he, hm⟩ := List.mem_map.mp c1
          exact ⟨e, he, by rw [hm]; congr 1; omega⟩
  · rintro σ' H3 ⟨s3, zs, ts, k4, k5, k6, rfl, ek, ef, dz, lt, tu, rg, al⟩
    wtm_at "s"
    refine q fo ts H3 (s1.free nf) (s3.trans (hid_same _ _)) ef rg (fun t h1 h2 => ?_) tu
    obtain ⟨e, he, hm⟩ := al t h1 (by omega)
    refine ⟨e, he, fun i hi => ?_⟩
    have := congrArg (fun l => l[i]?) hm
    unfold markT at this
    simpa [hi] using this
abbrev sp_unlike_ties (K : PySem.W.Frag) : Sp := fun vs H Q E => ∃ v0 v1, vs = [v0, v1] ∧ pr_unlike_ties K v0 v1 H Q E
theorem ok_unlike_ties (T : Txt K mg A) : FnOk P w K mg base CX0 1 A.a_unlike_ties A.d_unlike_ties ["net", "both"] (sp_unlike_ties K) := by
  refine T.F_unlike_ties.ok sc_unlike_ties (fun vs H Q E h => by obtain ⟨v0, v1, rfl, _⟩ := h; rfl) (fun cdv A0 outer s H vs Q E hr h => ?_)
  obtain ⟨v0, v1, rfl, h⟩ := h
  exact ⟨t_unlike_ties K, (pss_cons (ps_set (i := 2) sc_unlike_ties.nd rfl (Or.inl rfl) (pe_lst pa_nil))
      (pss_cons (ps_set (i := 3) sc_unlike_ties.nd rfl (Or.inl rfl) (pe_lst pa_nil))
      (pss_cons (ps_for PassesOwn.never rfl (pi_range1 (by rfl) T.z_range (pa_cons (pe_ix ix_tup (pv 0) pe_int (fun _ _ => rfl)) pa_nil)) (pg_name (i := 4) sc_unlike_ties.nd rfl (Or.inr rfl))
      (pss_cons (ps_setLc (i := 5) (own := [("ties", 6)]) (by rfl) sc_unlike_ties.nd rfl rfl (sw_true rfl rfl rfl (by decide +kernel)) (pi_list (pv 1)) (blkOk_by (own := [("ties", 6)]) (N := ["net", "both", "known", "found", "tie", "mark", "ties"]) (sc := defScope s_unlike_ties) (by decide +kernel)) (fun _ _ _ _ _ => (pg_name (i := 6) sc_unlike_ties.nd rfl (Or.inl rfl))) (fun _ _ _ _ _ => pts_nil) (fun _ _ _ _ _ => (pe_cmpR op_in_seq (pv 4) (pe_ix ix_tup (pv 6) pe_int (fun _ _ => rfl)) (by rfl))))
      (pss_one (ps_if (pt_cmpR (op_notInD (u65 hr)) (pv 5) (pv 2) (by rfl)) (pss_cons (ps_expr (pe_bm PySem.F.plainAttrs_list PySem.F.slot_list_append PySem.F.type_list_append mt_append (pv 2) (pa_cons (pv 5) pa_nil)))
      (pss_one (ps_expr (pe_bm PySem.F.plainAttrs_list PySem.F.slot_list_append PySem.F.type_list_append mt_append (pv 3) (pa_cons (pv 4) pa_nil))))) pss_nil))))
      (pss_one (ps_ret (pv 3)))))), pure_unlike_ties h⟩


theorem SsOk.of {us : List Int} (h : T01 us) : SsOk (ssOf us) := fun k u hu => by
  by_cases c : k < 0
  · rw [look_neg us c] at hu; cases hu
  · obtain ⟨i, rfl⟩ : ∃ i : Nat, k = i := ⟨k.toNat, by omega⟩
    rw [look_ss] at hu
    split at hu
    · cases hu; exact h.get i
    · cases hu
theorem dp_pap {K : PySem.W.Frag} {H : Hp} {v : V} {P : Pap} (h : Dp K H v P.d) : ∃ p xs, v = .ref p ∧ SqT K H p xs := by
  cases P with
  | ties e f => obtain ⟨a, xs, h1, h2, _⟩ := dp_tup h; exact ⟨a, xs, h1, h2⟩
  | cut k a b => obtain ⟨a, xs, h1, h2, _⟩ := dp_tup h; exact ⟨a, xs, h1, h2⟩
def pr_turned_or_paper (K : PySem.W.Frag) (d : Nat) (v0 v1 v2 v3 : V) (H : Hp) (Q : VK) (_ : XK) : Prop := ∃ (n : Int) (ws : List (Int × Int)) (ls : List (List Int × List Int)) (us : List Int) (a c : Addr) (ts : List Int) (m : Int) (S : List Addr), Dp K H v0 (bothD ls) ∧ Both n ws ls ∧ ws.length ≤ 1000 ∧ v1 = .ref a ∧ H a = some (.dK (dS (ssOf us))) ∧ T01 us ∧ us.length ≤ ws.length ∧ ws.length - us.length < d ∧ v2 = .ref c ∧ SqL K H c (ts.map V.int) ∧ (∀ t ∈ ts, 0 ≤ t ∧ t < n) ∧ v3 = .int m ∧ 0 ≤ m ∧ m ≤ 100000 ∧ (∀ x ∈ S, H x ≠ none) ∧
  (∀ p us' H', Same H H' → H' p = some (.dK (dS (ssOf us'))) → us'.length = ws.length → T01 us' → (∀ e ∈ ts, sumF n ws (ssOf us') e e ≤ 2 * m) → topF n ws ts m (ws.length - us.length) us = .inl us' → Q (.ref p) H') ∧
  ∀ p P H', Same H H' → Dp K (hid S H') (.ref p) (Pap.d P) → PapOk n ws m (ssOf us) P → P.dep + us.length ≤ ws.length → topF n ws ts m (ws.length - us.length) us = .inr P → Q (.ref p) H'
def spd_turned_or_paper (K : PySem.W.Frag) : Nat → Sp
  | 0 => fun _ _ _ _ => False
  | d + 1 => fun vs H Q E => ∃ v0 v1 v2 v3, vs = [v0, v1, v2, v3] ∧ pr_turned_or_paper K d v0 v1 v2 v3 H Q E
def t_turned_or_paper (K : PySem.W.Frag) (sp : Sp) : TS :=
  (tSeq (tAsg (tCall (sp_heavy_pair K) [] E0 (tCons (tVar 0) (tCons (tVar 1) (tCons (tVar 2) (tCons (tVar 3) tNil))))) (gName 4))
    (tSeq (tIfS (tTest (tOp xNotN (tVar 4) (tC .non))) (tRet (tVar 4)) tNext)
    (tSeq (tIfS (tTest (tOp rEq (tCB rLenD (tCons (tVar 1) tNil)) (tCB (rLenX K) (tCons (tVar 0) tNil)))) (tRet (tVar 1)) tNext)
    (tSeq (tAsg (tOp (rIxL K) (tLc (iRng1 (tCons (tCB (rLenX K) (tCons (tVar 0) tNil)) tNil)) (gName 8) (tB (tDNotIn (tVar 8) (tVar 1))) (tVar 8) [8]) (tC (.int 0))) (gName 5))
    (tSeq (tAsg (tCall sp [] E0 (tCons (tVar 0) (tCons (tCall (sp_settle K) [] E0 (tCons (tVar 1) (tCons (tVar 5) (tCons (tC (.int 0)) tNil)))) (tCons (tVar 2) (tCons (tVar 3) tNil))))) (gName 6))
    (tSeq (tIfS (tB (tCB (rIsi K) (tCons (tVar 6) (tCons (tC (.ty "dict")) tNil)))) (tRet (tVar 6)) tNext)
    (tSeq (tAsg (tCall sp [] E0 (tCons (tVar 0) (tCons (tCall (sp_settle K) [] E0 (tCons (tVar 1) (tCons (tVar 5) (tCons (tC (.int 1)) tNil)))) (tCons (tVar 2) (tCons (tVar 3) tNil))))) (gName 7))
    (tSeq (tIfS (tB (tCB (rIsi K) (tCons (tVar 7) (tCons (tC (.ty "dict")) tNil)))) (tRet (tVar 7)) tNext)
    (tRet (tTup (tCons (tVar 5) (tCons (tVar 6) (tCons (tVar 7) tNil)))))))))))))
theorem pure_turned_or_paper {d : Nat} {v0 v1 v2 v3 : V} {H : Hp} {Q : VK} {E : XK} (hh : pr_turned_or_paper K d v0 v1 v2 v3 H Q E) : t_turned_or_paper K (spd_turned_or_paper K d) ⟨fun _ H' => Q .non H', Q, fun _ _ => False, fun _ _ => False⟩ [some v0, some v1, some v2, some v3, none, none, none, none, none] H := by
  obtain ⟨n, ws, ls, us, a, c, ts, m, S, d0, B, hz, rfl, ha, tu, lu, hd, rfl, hc, rg, rfl, m0, m1, hS, qd, qp⟩ := hh
  have fS : ∀ {H1 : Hp} {p : Addr}, Same H H1 → H1 p = none → p ∉ S := fun s np z => hS _ z (s.free np)
  obtain ⟨b, ys, rfl, hb, ly, at_⟩ := both_at d0 B
  clear at_
  unfold t_turned_or_paper
  wtm_at "s"
  refine ⟨_, _, _, _, rfl, n, ws, ls, ssOf us, a, c, ts, m, d0, B, hz, rfl, ha, SsOk.of tu, rfl, hc, rfl, m0, m1, fun no => ?_, fun p e f H1 np s1 e1 he hf hv hp => ?_⟩
  · wtm_at "s"
    refine k_lenD ha ?_
    wtm_at "s"
    rw [dS_len, ssOf_len, ly]
    refine k_it (fun c1 => ?_) (fun c1 => ?_)
    · wtm_at "s"
      refine qd a us H (Same.refl _) ha (by omega) tu (fun e he => no e he e he (Int.le_refl _)) ?_
      rw [show ws.length - us.length = 0 by omega, topF, hp_none no]
    · have lu' : us.length < ws.length := by omega
      obtain ⟨d, rfl⟩ : ∃ d', d = d' + 1 := ⟨d - 1, by omega⟩
      have hk : lookS (ssOf us) (us.length : Int) = none := by rw [look_ss]; simp
      have tf : topF n ws ts m (ws.length - us.length) us = match topF n ws ts m (ws.length - us.length - 1) (us ++ [0]) with
          | .inl u => .inl u
          | .inr a => match topF n ws ts m (ws.length - us.length - 1) (us ++ [1]) with
            | .inl u => .inl u
            | .inr b => .inr (.cut us.length a b) := by
        obtain ⟨r, hr⟩ : ∃ r, ws.length - us.length = r + 1 := ⟨ws.length - us.length - 1, by omega⟩
        rw [hr, topF, hp_none no, Nat.add_sub_cancel]
        all_goals rfl
      have tl : ∀ u : Int, ws.length - (us ++ [u]).length = ws.length - us.length - 1 := fun u => by rw [List.length_append, List.length_singleton]; omega
      wtm_at "s"
      rw [ly, Int.toNat_natCast]
      refine lc_pureR (by omega) (fun i => if i < us.length then none else some (.int (0 + (i : Nat)))) ?_ (fun D H1 nD s1 eD => ?_)
      · intro i H' hi sm R R0 g1 g2
        wtm_at "s"
        refine k_iD (sm _ _ ha) ?_
        rw [dS_val, show (0 : Int) + (i : Nat) = (i : Nat) from Int.zero_add _, look_ss]
        by_cases c2 : i < us.length
        · rw [if_pos c2]
          wtm_at "s"
          exact g2 (if_pos c2)
        · rw [if_neg c2]
          wtm_at "s"
          show if true = true then _ else _
          wtm_at "s"
          exact g1 _ (by rw [if_neg c2, Int.zero_add])
      have e0 : ((List.range ws.length).filterMap fun i => if i < us.length then none else some (V.int (0 + (i : Nat))))[0]? = some (.int (us.length : Int)) := by
        obtain ⟨r, hr⟩ : ∃ r, ws.length = us.length + (r + 1) := ⟨ws.length - us.length - 1, by omega⟩
        rw [hr, List.range_add, List.filterMap_append]
        have z : (List.range us.length).filterMap (fun i => if i < us.length then none else some (V.int (0 + (i : Nat)))) = [] := by
          rw [List.filterMap_eq_nil_iff]
          intro i hi
          exact if_pos (List.mem_range.mp hi)
        rw [z, List.nil_append, List.range_succ_eq_map, List.map_cons, List.filterMap_cons]
        simp
      wtm_at "s"
      refine k_ixL (sl eD) (show atI _ ((0 : Nat) : Int) = _ from atI_nat e0) ?_
      wtm_at "s"
      refine ⟨_, _, _, rfl, a, ssOf us, us.length, 0, rfl, rfl, rfl, s1 _ _ ha, hk, by rw [ssOf_len]; omega, fun p2 H2 np2 s2 e2 => ?_⟩
      rw [← ssOf_app] at e2
      have s02 := s1.trans s2
      wtm_at "s"
      refine ⟨_, _, _, _, rfl, n, ws, ls, us ++ [0], p2, c, ts, m, S, dp_same s02 d0, B, hz, rfl, e2, tu.app (.inl rfl), by simp; omega, by simp; omega, rfl, s02.seq hc, rg, rfl, m0, m1, (fun x hx z => hS x hx (s02.free z)), fun p us' H3 s3 e3 l3 t3 no3 tf3 => ?_, fun p P H3 s3 d3 ok3 dep3 tf3 => ?_⟩
      · wtm_at "s"
        refine k_isiD e3 ?_
        wtm_at "s"
        exact qd p us' H3 (s02.trans s3) e3 l3 t3 no3 (by rw [tl] at tf3; simp only [tf, tf3])
      · obtain ⟨p', xs, ep, hp⟩ := dp_pap d3
        cases ep
        wtm_at "s"
        refine k_isiDT (same_seqT (hid_same _ _) hp) ?_
        wtm_at "s"
        have s03 := s02.trans s3
        refine ⟨_, _, _, rfl, a, ssOf us, us.length, 1, rfl, rfl, rfl, s03 _ _ ha, hk, by rw [ssOf_len]; omega, fun p4 H4 np4 s4 e4 => ?_⟩
        rw [← ssOf_app] at e4
        have s04 := s03.trans s4
        wtm_at "s"
        refine ⟨_, _, _, _, rfl, n, ws, ls, us ++ [1], p4, c, ts, m, S, dp_same s04 d0, B, hz, rfl, e4, tu.app (.inr rfl), by simp; omega, by simp; omega, rfl, s04.seq hc, rg, rfl, m0, m1, (fun x hx z => hS x hx (s04.free z)), fun p5 us' H5 s5 e5 l5 t5 no5 tf5 => ?_, fun p5 P5 H5 s5 d5 ok5 dep5 tf5 => ?_⟩
        · wtm_at "s"
          refine k_isiD e5 ?_
          wtm_at "s"
          exact qd p5 us' H5 (s04.trans s5) e5 l5 t5 no5 (by rw [tl] at tf3 tf5; simp only [tf, tf3, tf5])
        · obtain ⟨p5', xs5, ep5, hp5⟩ := dp_pap d5
          cases ep5
          wtm_at "s"
          refine k_isiDT (same_seqT (hid_same _ _) hp5) ?_
          wtm_at "s"
          refine kT (by simp) (fun p6 H6 np6 s6 e6 => ?_)
          have s46 := s4.trans (s5.trans s6)
          rw [ssOf_app] at ok3 ok5
          refine qp p6 (.cut us.length P P5) H6 (s03.trans s46) (.tup (stp ?_) (.cons (.int _) (.cons (dp_same (hid_mono s46) d3) (.cons (dp_same (hid_mono s6) d5) .nil)))) ⟨by omega, by omega, hk, ok3, ok5⟩ ?_ (by rw [tl] at tf3 tf5; simp only [tf, tf3, tf5])
          · rw [hid_ne (fS (s04.trans s5) np6)]; exact e6
          · simp only [List.length_append, List.length_singleton] at dep3 dep5
            simp only [Pap.dep]
            omega
  · wtm_at "s"
    refine qp p (.ties e f) H1 s1 (.tup (stp ?_) (.cons (.str _) (.cons (.int _) (.cons (.int _) .nil)))) ⟨rg e he, rg f hf, hv⟩ ?_ ?_
    · rw [hid_ne (fS (Same.refl _) np)]; exact e1
    · simp only [Pap.dep]; omega
    · cases ws.length - us.length <;> rw [topF, hp]
theorem okd_turned_or_paper (T : Txt K mg A) : ∀ d : Nat, FnOk P w K mg base CX0 (3 + d) A.a_turned_or_paper A.d_turned_or_paper ["both", "settled", "ties", "m"] (spd_turned_or_paper K d)
  | 0 => T.F_turned_or_paper.ok sc_turned_or_paper (fun vs H Q E h => False.elim h) (fun cdv A0 outer s H vs Q E hr h => False.elim h)
  | d + 1 => by
    refine T.F_turned_or_paper.ok sc_turned_or_paper (fun vs H Q E h => by obtain ⟨v0, v1, v2, v3, rfl, _⟩ := h; rfl) (fun cdv A0 outer s H vs Q E hr h => ?_)
    obtain ⟨v0, v1, v2, v3, rfl, h⟩ := h
    exact ⟨t_turned_or_paper K (spd_turned_or_paper K d), (pss_cons (ps_set (i := 4) sc_turned_or_paper.nd rfl (Or.inl rfl) (pe_call (ok_heavy_pair T) (hr.mono (by first | decide | omega | (simp only [Nat.add_eq]; omega))) (by rfl) T.g_heavy_pair T.F_heavy_pair.kp T.b_heavy_pair .nil pass0 (pa_cons (pv 0) (pa_cons (pv 1) (pa_cons (pv 2) (pa_cons (pv 3) pa_nil))))))
      (pss_cons (ps_if (pt_cmpR op_notN (pv 4) pe_non (nomark _)) (pss_one (ps_ret (pv 4))) pss_nil)
      (pss_cons (ps_if (pt_cmpR op_eq (pe_callB q_lenD (by rfl) T.z_len (by decide +kernel) (pa_cons (pv 1) pa_nil)) (pe_callB q_len (by rfl) T.z_len (by decide +kernel) (pa_cons (pv 0) pa_nil)) (nomark _)) (pss_one (ps_ret (pv 1))) pss_nil)
      (pss_cons (ps_set (i := 5) sc_turned_or_paper.nd rfl (Or.inl rfl) (pe_ix ix_list (pe_lc (own := [("way", 8)]) (by rfl) sc_turned_or_paper.nd (pi_range1 (by rfl) T.z_range (pa_cons (pe_callB q_len (by rfl) T.z_len (by decide +kernel) (pa_cons (pv 0) pa_nil)) pa_nil)) (blkOk_by (own := [("way", 8)]) (N := ["both", "settled", "ties", "m", "pair", "k", "one", "other", "way"]) (sc := defScope s_turned_or_paper) (by decide +kernel)) (fun _ _ _ _ _ => (pg_name (i := 8) sc_turned_or_paper.nd rfl (Or.inl rfl))) (fun _ _ _ _ _ => (pts_one (pt_cmp (pc_dnotin (Nat.lt_of_le_of_lt (Nat.add_le_add_left (by decide) _) hr.units) (pv 8) (pv 1)) (by rfl)))) (fun _ _ _ _ _ => (pv 8))) pe_int (fun _ _ => rfl)))
      (pss_cons (ps_set (i := 6) sc_turned_or_paper.nd rfl (Or.inl rfl) (pe_call (okd_turned_or_paper T d) (hr.mono (by first | decide | omega | (simp only [Nat.add_eq]; omega))) (by rfl) T.g_turned_or_paper T.F_turned_or_paper.kp T.b_turned_or_paper .nil pass0 (pa_cons (pv 0) (pa_cons (pe_call (ok_settle T) (hr.mono (by first | decide | omega | (simp only [Nat.add_eq]; omega))) (by rfl) T.g_settle T.F_settle.kp T.b_settle .nil pass0 (pa_cons (pv 1) (pa_cons (pv 5) (pa_cons pe_int pa_nil)))) (pa_cons (pv 2) (pa_cons (pv 3) pa_nil))))))
      (pss_cons (ps_if (pt_val (pe_callB q_isi (by rfl) T.z_isinstance (by decide +kernel) (pa_cons (pv 6) (pa_cons (pe_bltn (v := .ty "dict") (by rfl) T.z_dict (by decide +kernel) rfl) pa_nil)))) (pss_one (ps_ret (pv 6))) pss_nil)
      (pss_cons (ps_set (i := 7) sc_turned_or_paper.nd rfl (Or.inl rfl) (pe_call (okd_turned_or_paper T d) (hr.mono (by first | decide | omega | (simp only [Nat.add_eq]; omega))) (by rfl) T.g_turned_or_paper T.F_turned_or_paper.kp T.b_turned_or_paper .nil pass0 (pa_cons (pv 0) (pa_cons (pe_call (ok_settle T) (hr.mono (by first | decide | omega | (simp only [Nat.add_eq]; omega))) (by rfl) T.g_settle T.F_settle.kp T.b_settle .nil pass0 (pa_cons (pv 1) (pa_cons (pv 5) (pa_cons pe_int pa_nil)))) (pa_cons (pv 2) (pa_cons (pv 3) pa_nil))))))
      (pss_cons (ps_if (pt_val (pe_callB q_isi (by rfl) T.z_isinstance (by decide +kernel) (pa_cons (pv 7) (pa_cons (pe_bltn (v := .ty "dict") (by rfl) T.z_dict (by decide +kernel) rfl) pa_nil)))) (pss_one (ps_ret (pv 7))) pss_nil)
      (pss_one (ps_ret (pe_tup (pa_cons (pv 5) (pa_cons (pv 6) (pa_cons (pv 7) pa_nil)))))))))))))), pure_turned_or_paper h⟩
abbrev sp_turned_or_paper (K : PySem.W.Frag) : Sp := fun vs H Q E => ∃ v0 v1 v2 v3, vs = [v0, v1, v2, v3] ∧ ∃ d : Nat, d < 12 ∧ pr_turned_or_paper K d v0 v1 v2 v3 H Q E
theorem ok_turned_or_paper (T : Txt K mg A) : FnOk P w K mg base CX0 15 A.a_turned_or_paper A.d_turned_or_paper ["both", "settled", "ties", "m"] (sp_turned_or_paper K) := by
  refine T.F_turned_or_paper.ok sc_turned_or_paper (fun vs H Q E h => by obtain ⟨v0, v1, v2, v3, rfl, _⟩ := h; rfl) (fun cdv A0 outer s H vs Q E hr h => ?_)
  obtain ⟨v0, v1, v2, v3, rfl, d, hd, h⟩ := h
  exact ⟨t_turned_or_paper K (spd_turned_or_paper K d), (pss_cons (ps_set (i := 4) sc_turned_or_paper.nd rfl (Or.inl rfl) (pe_call (ok_heavy_pair T) (hr.mono (by first | decide | omega | (simp only [Nat.add_eq]; omega))) (by rfl) T.g_heavy_pair T.F_heavy_pair.kp T.b_heavy_pair .nil pass0 (pa_cons (pv 0) (pa_cons (pv 1) (pa_cons (pv 2) (pa_cons (pv 3) pa_nil))))))
      (pss_cons (ps_if (pt_cmpR op_notN (pv 4) pe_non (nomark _)) (pss_one (ps_ret (pv 4))) pss_nil)
      (pss_cons (ps_if (pt_cmpR op_eq (pe_callB q_lenD (by rfl) T.z_len (by decide +kernel) (pa_cons (pv 1) pa_nil)) (pe_callB q_len (by rfl) T.z_len (by decide +kernel) (pa_cons (pv 0) pa_nil)) (nomark _)) (pss_one (ps_ret (pv 1))) pss_nil)
      (pss_cons (ps_set (i := 5) sc_turned_or_paper.nd rfl (Or.inl rfl) (pe_ix ix_list (pe_lc (own := [("way", 8)]) (by rfl) sc_turned_or_paper.nd (pi_range1 (by rfl) T.z_range (pa_cons (pe_callB q_len (by rfl) T.z_len (by decide +kernel) (pa_cons (pv 0) pa_nil)) pa_nil)) (blkOk_by (own := [("way", 8)]) (N := ["both", "settled", "ties", "m", "pair", "k", "one", "other", "way"]) (sc := defScope s_turned_or_paper) (by decide +kernel)) (fun _ _ _ _ _ => (pg_name (i := 8) sc_turned_or_paper.nd rfl (Or.inl rfl))) (fun _ _ _ _ _ => (pts_one (pt_cmp (pc_dnotin (Nat.lt_of_le_of_lt (Nat.add_le_add_left (by decide) _) hr.units) (pv 8) (pv 1)) (by rfl)))) (fun _ _ _ _ _ => (pv 8))) pe_int (fun _ _ => rfl)))
      (pss_cons (ps_set (i := 6) sc_turned_or_paper.nd rfl (Or.inl rfl) (pe_call (okd_turned_or_paper T d) (hr.mono (by first | decide | omega | (simp only [Nat.add_eq]; omega))) (by rfl) T.g_turned_or_paper T.F_turned_or_paper.kp T.b_turned_or_paper .nil pass0 (pa_cons (pv 0) (pa_cons (pe_call (ok_settle T) (hr.mono (by first | decide | omega | (simp only [Nat.add_eq]; omega))) (by rfl) T.g_settle T.F_settle.kp T.b_settle .nil pass0 (pa_cons (pv 1) (pa_cons (pv 5) (pa_cons pe_int pa_nil)))) (pa_cons (pv 2) (pa_cons (pv 3) pa_nil))))))
      (pss_cons (ps_if (pt_val (pe_callB q_isi (by rfl) T.z_isinstance (by decide +kernel) (pa_cons (pv 6) (pa_cons (pe_bltn (v := .ty "dict") (by rfl) T.z_dict (by decide +kernel) rfl) pa_nil)))) (pss_one (ps_ret (pv 6))) pss_nil)
      (pss_cons (ps_set (i := 7) sc_turned_or_paper.nd rfl (Or.inl rfl) (pe_call (okd_turned_or_paper T d) (hr.mono (by first | decide | omega | (simp only [Nat.add_eq]; omega))) (by rfl) T.g_turned_or_paper T.F_turned_or_paper.kp T.b_turned_or_paper .nil pass0 (pa_cons (pv 0) (pa_cons (pe_call (ok_settle T) (hr.mono (by first | decide | omega | (simp only [Nat.add_eq]; omega))) (by rfl) T.g_settle T.F_settle.kp T.b_settle .nil pass0 (pa_cons (pv 1) (pa_cons (pv 5) (pa_cons pe_int pa_nil)))) (pa_cons (pv 2) (pa_cons (pv 3) pa_nil))))))
      (pss_cons (ps_if (pt_val (pe_callB q_isi (by rfl) T.z_isinstance (by decide +kernel) (pa_cons (pv 7) (pa_cons (pe_bltn (v := .ty "dict") (by rfl) T.z_dict (by decide +kernel) rfl) pa_nil)))) (pss_one (ps_ret (pv 7))) pss_nil)
      (pss_one (ps_ret (pe_tup (pa_cons (pv 5) (pa_cons (pv 6) (pa_cons (pv 7) pa_nil)))))))))))))), pure_turned_or_paper h⟩


/-- what least_load tells, once for all -/
def LL (n : Int) (ws : List (Int × Int)) (m : Int) (us : List Int) (P : Pap) : Prop := topF n ws (unlF n ws n.toNat) m ws.length [] = .inl us ∧ topF n ws (unlF n ws n.toNat) (m - 1) ws.length [] = .inr P
theorem LL.one {n : Int} {ws : List (Int × Int)} {m : Int} {us vs : List Int} {P R : Pap} (h : LL n ws m us P) (h' : LL n ws m vs R) : us = vs ∧ P = R := by
  obtain ⟨a, b⟩ := h
  obtain ⟨c, d⟩ := h'
  rw [a] at c
  rw [b] at d
  cases c
  cases d
  exact ⟨rfl, rfl⟩
def pr_least_load (K : PySem.W.Frag) (v0 v1 : V) (H : Hp) (Q : VK) (_ : XK) : Prop := ∃ (n : Int) (ws : List (Int × Int)) (S : List Addr), Dp K H v0 (Net.ring n).d ∧ (Net.ring n).ok ∧ Dp K H v1 (dPairs ws) ∧ ws.length < 11 ∧ (∀ w ∈ ws, isWay (.ring n) w.1 w.2) ∧ (∀ x ∈ S, H x ≠ none) ∧
  (ws = [] → ∀ p u H', H p = none → H u = none → p ≠ u → Same H H' → H' p = some (.tup [.int 0, .ref u, .non]) → H' u = some (.lst []) → Q (.ref p) H') ∧
  (ws ≠ [] → ∀ p u x m us P H', H p = none → H u = none → p ≠ u → Same H H' → H' p = some (.tup [.int m, .ref u, x]) → H' u = some (.lst (List.map V.int us)) → us.length = ws.length → T01 us → IsL n ws us m → 1 ≤ m → m ≤ ws.length → Dp K (hid (u :: p :: S) H') x (Pap.d P) → PapOk n ws (m - 1) [] P → P.dep ≤ ws.length → LL n ws m us P → Q (.ref p) H')
def t_least_load (K : PySem.W.Frag) : TS :=
  (tSeq (tDrop (tCall (sp_look_ring K) [] E0 (tCons (tVar 0) tNil)))
    (tSeq (tDrop (tCall (sp_look_few K) [] E0 (tCons (tVar 0) (tCons (tVar 1) (tCons (tC (.int 14)) tNil)))))
    (tSeq (tIfS (tTest (tOp (rEqD K) (tVar 1) (tLst tNil))) (tRet (tTup (tCons (tC (.int 0)) (tCons (tLst tNil) (tCons (tC .non) tNil))))) tNext)
    (tSeq (tAsg (tCall (sp_lying K) [] E0 (tCons (tVar 0) (tCons (tVar 1) tNil))) (gName 2))
    (tSeq (tAsg (tCall (sp_unlike_ties K) [] E0 (tCons (tVar 0) (tCons (tVar 2) tNil))) (gName 3))
    (tSeq (tAsg (tC .non) (gName 4))
    (tSeq (tAsg (tC (.int 0)) (gName 5))
    (tSeq (tAsg (tCall (sp_turned_or_paper K) [] E0 (tCons (tVar 2) (tCons tDNewK (tCons (tVar 3) (tCons (tVar 5) tNil))))) (gName 6))
    (tSeq (tWhile (tNot (tB (tCB (rIsi K) (tCons (tVar 6) (tCons (tC (.ty "dict")) tNil)))))
      (tSeq (tAsg (tVar 6) (gName 4))
    (tSeq (tAug 5 (tC (.int 1)) (ipI fun i j => i + j))
    (tAsg (tCall (sp_turned_or_paper K) [] E0 (tCons (tVar 2) (tCons tDNewK (tCons (tVar 3) (tCons (tVar 5) tNil))))) (gName 6)))))
    (tRet (tTup (tCons (tVar 5) (tCons (tLc (iRng1 (tCons (tCB (rLenX K) (tCons (tVar 1) tNil)) tNil)) (gName 7) tYes (tDGet (tVar 6) (tVar 7)) [7]) (tCons (tVar 4) tNil))))))))))))))
theorem pure_least_load {v0 v1 : V} {H : Hp} {Q : VK} {E : XK} (hh : pr_least_load K v0 v1 H Q E) : t_least_load K ⟨fun _ H' => Q .non H', Q, fun _ _ => False, fun _ _ => False⟩ [some v0, some v1, none, none, none, none, none, none] H := by
  obtain ⟨n, ws, S, d0, ok, d1, hz, hw, hS, qe, qn⟩ := hh
  have n3 : 3 ≤ n := ok.1
  obtain ⟨an0, y0, rfl, hsn, hyn⟩ := dp_net d0
  obtain rfl := dp_int hyn
  obtain ⟨b0, ys0, rfl, hb0, dys0⟩ := dp_list d1
  have ly0 : ys0.length = ws.length := by rw [dpa_len dys0, List.length_map]
  unfold t_least_load
  wtm_at "s"
  refine ⟨_, rfl, n, d0, ok, ?_⟩
  wtm_at "s"
  refine ⟨_, _, _, rfl, .ring n, ws, 14, d0, ok, d1, by omega, hw, rfl, by omega, ?_⟩
  wtm_at "s"
  refine kL (by simp) (fun p0 H1 np0 s1 e1 => ?_)
  wtm_at "s"
  refine k_eqD (n := 2) (dp_same s1 d1) (.lst (sl e1) .nil) (sh_pairs _) (sh_list fun d hd => by cases hd) (by decide) ?_
  by_cases cw : ws = []
  · subst cw
    rw [show PyData.eqv (dPairs []) (.list []) = true from rfl]
    wtm_at "s"
    refine kL (by simp) (fun u H2 nu s2 e2 => ?_)
    wtm_at "s"
    refine kT (by simp) (fun p H3 np s3 e3 => ?_)
    have s13 := s1.trans (s2.trans s3)
    refine qe rfl p u H3 ((s1.trans s2).free np) (s1.free nu) (fun z => by rw [z, e2] at np; cases np) s13 e3 (s3 _ _ e2)
  obtain ⟨w0, wr, hwr⟩ : ∃ w0 wr, ws = w0 :: wr := by
    cases ws with
    | nil => exact absurd rfl cw
    | cons a b => exact ⟨a, b, rfl⟩
  have ef : PyData.eqv (dPairs ws) (.list []) = false := by rw [hwr]; rfl
  rw [ef]
  wtm_at "s"
  refine ⟨_, _, rfl, n, ws, [], dp_same s1 d0, ok, dp_same s1 d1, by omega, hw, (fun x hx => by cases hx), fun pb ls H2 npb s2 dl B => ?_⟩
  replace dl := dp_same (hid_same _ _) dl
  wtm_at "s"
  have s02 := s1.trans s2
  refine ⟨_, _, rfl, n, ws, ls, dp_same s02 d0, ok, dl, B, by omega, fun pt ts H3 npt s3 e3 rg lk tu => ?_⟩
  have s03 := s02.trans s3
  have dl3 := dp_same s3 dl
  wtm_at "s"
  obtain ⟨pbb, ysb, epb, hpb, dysb⟩ := dp_list dl3
  cases epb
  have lys : ysb.length = ws.length := by rw [dpa_len dysb, List.length_map, B.len]
  -- what a turning with no heavy tie has
  have isle : ∀ us : List Int, us.length = ws.length → T01 us → ∀ m : Int, (∀ e ∈ ts, sumF n ws (ssOf us) e e ≤ 2 * m) → ∀ e, 0 ≤ e → e < n → loadTo n ws us e ws.length ≤ m := fun us hl tu m no e e0 e1 => by
    obtain ⟨f, hf, hm⟩ := lk e e0 e1
    have r := rg f hf
    have h1 := load_like n3 hw r ⟨e0, e1⟩ tu.get hm ws.length (Nat.le_refl _)
    have h2 := sum_all (n := n) (ss := ssOf us) (e := f) (us := us) (fun i hi => by rw [look_ss, if_pos (show i < us.length by omega)]) ws.length (Nat.le_refl _)
    have h3 := no f hf
    rw [← h1]
    have h4 : sumF n ws (ssOf us) f f = sumTo n ws (ssOf us) f f ws.length := rfl
    omega
  have ss0 : ssOf [] = [] := rfl
  have base : ∀ (H4 : Hp) (m : Int) (R : VK) (E0 : XK), Same H3 H4 → 0 ≤ m → m ≤ 1000 →
      (∀ p us' H', Same H4 H' → H' p = some (.dK (dS (ssOf us'))) → us'.length = ws.length → T01 us' → (∀ e ∈ ts, sumF n ws (ssOf us') e e ≤ 2 * m) → topF n ws ts m ws.length [] = .inl us' → R (.ref p) H') →
      (∀ p P H', Same H4 H' → Dp K (hid S H') (.ref p) (Pap.d P) → PapOk n ws m [] P → P.dep ≤ ws.length → topF n ws ts m ws.length [] = .inr P → R (.ref p) H') →
      ∀ a, H4 a = some (.dK []) → sp_turned_or_paper K [.ref pb, .ref a, .ref pt, .int m] H4 R E0 := fun H4 m R E0 s m0 m1 r1 r2 a ea =>
    ⟨_, _, _, _, rfl, 11, by decide, n, ws, ls, [], a, pt, ts, m, S, dp_same s dl3, B, by omega, rfl, ea, (fun u hu => by cases hu), by simp, by simp; omega, rfl, s.seq (sl e3), rg, rfl, m0, by omega, (fun x hx z => hS x hx ((s03.trans s).free z)), r1, fun p P H' s' dP okP dep tf => r2 p P H' s' dP okP (by simpa using dep) tf⟩
  refine kD (fun a4 H4 na4 s4 e4 => ?_)
  wtm_at "s"
  refine base H4 0 _ _ s4 (by omega) (by omega) ?_ ?_ a4 e4
  · -- a load of nought: no such
    intro p us' H5 s5 e5 l5 t5 no5 tf5
    exfalso
    obtain ⟨e, he, h1⟩ := load_pos (n := n) (us := us') hw (by rw [hwr]; simp)
    have := isle us' l5 t5 0 no5 e he.1 he.2
    omega
  intro p P H5 s5 dP okP depP tfP
  have s35 := s4.trans s5
  clear s4 s5 e4 na4
  wtm_at "s"
  refine whileW (fun k σ' H' => Same H3 H' ∧ ∃ (m : Int) (x v : V), σ' = [some (.ref an0), some (.ref b0), some (.ref pb), some (.ref pt), some x, some (.int m), some v, none] ∧ k + m.toNat = ws.length ∧ 0 ≤ m ∧ m ≤ ws.length ∧
      ((∃ a us, v = .ref a ∧ H' a = some (.dK (dS (ssOf us))) ∧ us.length = ws.length ∧ T01 us ∧ (∀ e ∈ ts, sumF n ws (ssOf us) e e ≤ 2 * m) ∧ 1 ≤ m ∧ topF n ws ts m ws.length [] = .inl us ∧ ∃ P, Dp K (hid S H') x (Pap.d P) ∧ PapOk n ws (m - 1) [] P ∧ P.dep ≤ ws.length ∧ topF n ws ts (m - 1) ws.length [] = .inr P) ∨
        ∃ p P, v = .ref p ∧ Dp K (hid S H') v (Pap.d P) ∧ PapOk n ws m [] P ∧ P.dep ≤ ws.length ∧ topF n ws ts m ws.length [] = .inr P)) (m0 := ws.length) ⟨s35, 0, .non, .ref p, rfl, by simp, by omega, by omega, .inr ⟨p, P, rfl, dP, okP, depP, tfP⟩⟩ ?_ ?_
  · clear dP okP depP s35 tfP
    rintro k σ' H6 ⟨s6, m, x, v, rfl, km, m0, m1, ⟨a, us, rfl, ea, lu, t01, no, m2, tfu, P, dP, okP, depP, tfP⟩ | ⟨p, P, rfl, dP, okP, depP, tfP⟩⟩
    · have s06 := s03.trans s6
      wtm_at "s"
      refine k_isiD ea ?_
      wtm_at "s"
      rw [ly0, Int.toNat_natCast]
      refine lc_pureR (by omega) (fun i => some (.int (us.getD i 0))) ?_ (fun D H7 nD s7 eD => ?_)
      · intro i H' hi sm R R0 g1 g2
        wtm_at "s"
        rw [show (0 : Int) + (i : Nat) = (i : Nat) from Int.zero_add _]
        refine k_gD1 (.inl (sm _ _ ea)) (by rw [dS_val, look_ss, if_pos (by omega)]; rfl) ?_
        exact g1 _ rfl
      · have eD' : H7 D = some (.lst (us.map V.int)) := by
          rw [eD, fm_map, ← lu]
          congr 2
          rw [show (List.range us.length).map (fun i => V.int (us.getD i 0)) = ((List.range us.length).map (fun i => us.getD i 0)).map V.int by rw [List.map_map]; rfl]
          congr 1
          refine List.ext_getElem? fun i => ?_
          rw [List.getElem?_map]
          by_cases ci : i < us.length
          · rw [List.getElem?_range ci, List.getElem?_eq_getElem ci]
            simp [List.getD_eq_getElem?_getD, List.getElem?_eq_getElem ci]
          · rw [List.getElem?_eq_none (by simpa using ci), List.getElem?_eq_none (by omega)]
            rfl
        wtm_at "s"
        refine kT (by simp) (fun p H8 np s8 e8 => ?_)
        have nDp : p ≠ D := fun z => by rw [z, eD'] at np; cases np
        have all := isle us lu t01 m no
        obtain ⟨e, he, hl⟩ := pap_bars n3 hw t01.get okP (fun i v _ z => by cases z)
        refine qn cw p D x m us P H8 ((s06.trans s7).free np) (s06.free nD) nDp (s06.trans (s7.trans s8)) e8 (s8 _ _ eD') lu t01 ⟨⟨e, he, ?_⟩, all⟩ m2 m1 ?_ okP depP (by rw [tu] at tfu tfP; exact ⟨tfu, tfP⟩)
        · have := all e he.1 he.2
          omega
        · refine dp_same ?_ dP
          intro c o hc
          obtain ⟨c1, c2⟩ := hid_some hc
          rw [hid_ne]
          · exact (s7.trans s8) _ _ c2
          · intro z
            rcases List.mem_cons.mp z with rfl | z
            · rw [nD] at c2; cases c2
            · rcases List.mem_cons.mp z with rfl | z
              · rw [s7.free np] at c2; cases c2
              · exact c1 z
    · obtain ⟨p', xs', ep', hp'⟩ := dp_pap dP
      cases ep'
      obtain ⟨e, he, hl⟩ := pap_bars n3 hw (us := []) (fun i => .inl rfl) okP (fun i v _ z => by cases z)
      have hl2 := load_le (n := n) (ws := ws) (us := []) (e := e) ws.length
      wtm_at "s"
      refine k_isiDT (same_seqT (hid_same _ _) hp') ?_
      wtm_at "s"
      refine kD (fun a7 H7 na7 s7 e7 => ?_)
      wtm_at "s"
      refine base H7 (m + 1) _ _ (s6.trans s7) (by omega) (by omega) ?_ ?_ a7 e7
      · intro p8 us H8 s8 e8 l8 t8 no8 tf8
        wtm_at "s"
        exact ⟨k - 1, by omega, (s6.trans s7).trans s8, m + 1, .ref p, .ref p8, rfl, by omega, by omega, by omega, .inl ⟨p8, us, rfl, e8, l8, t8, no8, by omega, tf8, P, dp_same (hid_mono (s7.trans s8)) dP, by rw [Int.add_sub_cancel]; exact okP, depP, by rw [Int.add_sub_cancel]; exact tfP⟩⟩
      · intro p8 P8 H8 s8 d8 ok8 dep8 tf8
        wtm_at "s"
        exact ⟨k - 1, by omega, (s6.trans s7).trans s8, m + 1, .ref p, .ref p8, rfl, by omega, by omega, by omega, .inr ⟨p8, P8, rfl, d8, ok8, dep8, tf8⟩⟩
  · intro σ H Q Q' hQ z
    obtain ⟨v, h1, x, c, t, u, b, e1, e2, e3, e4, k, e5, h⟩ := z
    exact ⟨v, h1, x, c, t, u, b, e1, e2, e3, e4, k, e5, hQ _ _ h⟩
abbrev sp_least_load (K : PySem.W.Frag) : Sp := fun vs H Q E => ∃ v0 v1, vs = [v0, v1] ∧ pr_least_load K v0 v1 H Q E
theorem ok_least_load (T : Txt K mg A) : FnOk P w K mg base CX0 16 A.a_least_load A.d_least_load ["net", "ways"] (sp_least_load K) := by
  refine T.F_least_load.ok sc_least_load (fun vs H Q E h => by obtain ⟨v0, v1, rfl, _⟩ := h; rfl) (fun cdv A0 outer s H vs Q E hr h => ?_)
  obtain ⟨v0, v1, rfl, h⟩ := h
  exact ⟨t_least_load K, (pss_cons (ps_expr (pe_call (ok_look_ring T) (hr.mono (by decide)) (by rfl) T.g_look_ring T.F_look_ring.kp T.b_look_ring .nil pass0 (pa_cons (pv 0) pa_nil)))
      (pss_cons (ps_expr (pe_call (ok_look_few T) (hr.mono (by decide)) (by rfl) T.g_look_few T.F_look_few.kp T.b_look_few .nil pass0 (pa_cons (pv 0) (pa_cons (pv 1) (pa_cons (pe_glob (v := .int 14) (by rfl) T.c_MOST ⟨_, rfl⟩) pa_nil)))))
      (pss_cons (ps_if (pt_cmpR (op_eqD hr.units) (pv 1) (pe_lst pa_nil) (nomark _)) (pss_one (ps_ret (pe_tup (pa_cons pe_int (pa_cons (pe_lst pa_nil) (pa_cons pe_non pa_nil)))))) pss_nil)
      (pss_cons (ps_set (i := 2) sc_least_load.nd rfl (Or.inl rfl) (pe_call (ok_lying T) (hr.mono (by decide)) (by rfl) T.g_lying T.F_lying.kp T.b_lying .nil pass0 (pa_cons (pv 0) (pa_cons (pv 1) pa_nil))))
      (pss_cons (ps_set (i := 3) sc_least_load.nd rfl (Or.inl rfl) (pe_call (ok_unlike_ties T) (hr.mono (by decide)) (by rfl) T.g_unlike_ties T.F_unlike_ties.kp T.b_unlike_ties .nil pass0 (pa_cons (pv 0) (pa_cons (pv 2) pa_nil))))
      (pss_cons (ps_set (i := 4) sc_least_load.nd rfl (Or.inl rfl) pe_non)
      (pss_cons (ps_set (i := 5) sc_least_load.nd rfl (Or.inl rfl) pe_int)
      (pss_cons (ps_set (i := 6) sc_least_load.nd rfl (Or.inr rfl) (pe_call (ok_turned_or_paper T) (hr.mono (by decide)) (by rfl) T.g_turned_or_paper T.F_turned_or_paper.kp T.b_turned_or_paper .nil pass0 (pa_cons (pv 2) (pa_cons pe_dnewK (pa_cons (pv 3) (pa_cons (pv 5) pa_nil))))))
      (pss_cons (ps_while PassesOwn.never (pt_not (pt_val (pe_callB q_isi (by rfl) T.z_isinstance (by decide +kernel) (pa_cons (pv 6) (pa_cons (pe_bltn (v := .ty "dict") (by rfl) T.z_dict (by decide +kernel) rfl) pa_nil)))))
      (pss_cons (ps_set (i := 4) sc_least_load.nd rfl (Or.inl rfl) (pv 6))
      (pss_cons (ps_aug (i := 5) sc_least_load.nd rfl (Or.inl rfl) pe_int ip_add)
      (pss_one (ps_set (i := 6) sc_least_load.nd rfl (Or.inr rfl) (pe_call (ok_turned_or_paper T) (hr.mono (by decide)) (by rfl) T.g_turned_or_paper T.F_turned_or_paper.kp T.b_turned_or_paper .nil pass0 (pa_cons (pv 2) (pa_cons pe_dnewK (pa_cons (pv 3) (pa_cons (pv 5) pa_nil))))))))))
      (pss_one (ps_ret (pe_tup (pa_cons (pv 5) (pa_cons (pe_lc (own := [("k", 7)]) (by rfl) sc_least_load.nd (pi_range1 (by rfl) T.z_range (pa_cons (pe_callB q_len (by rfl) T.z_len (by decide +kernel) (pa_cons (pv 1) pa_nil)) pa_nil)) (blkOk_by (own := [("k", 7)]) (N := ["net", "ways", "both", "ties", "paper", "m", "told", "k"]) (sc := defScope s_least_load) (by decide +kernel)) (fun _ _ _ _ _ => (pg_name (i := 7) sc_least_load.nd rfl (Or.inl rfl))) (fun _ _ _ _ _ => pts_nil) (fun _ _ _ _ _ => (pe_dget (Nat.lt_of_le_of_lt (Nat.add_le_add_left (by decide) _) hr.units) (pv 6) (pv 7) (fun _ _ => rfl)))) (pa_cons (pv 4) pa_nil))))))))))))))), pure_least_load h⟩
theorem ll_one {v0 v1 : V} {H : Hp} {Q : VK} {E : XK} {n : Int} {ws : List (Int × Int)} (d0 : Dp K H v0 (Net.ring n).d) (ok : (Net.ring n).ok) (d1 : Dp K H v1 (dPairs ws)) (hz : ws.length < 11) (hw : ∀ w ∈ ws, isWay (.ring n) w.1 w.2)
    (h : ∀ p u x m us H', H p = none → H u = none → Same H H' → H' p = some (.tup [.int m, .ref u, x]) → H' u = some (.lst (List.map V.int us)) → us.length = ws.length → T01 us → IsL n ws us m → 0 ≤ m → m ≤ ws.length → (∀ vs k, T01 vs → IsL n ws vs k → m ≤ k) → (ws ≠ [] → 1 ≤ m ∧ ∃ P, Dp K (hid [u, p] H') x (Pap.d P) ∧ PapOk n ws (m - 1) [] P ∧ P.dep ≤ ws.length ∧ LL n ws m us P) → (ws = [] → x = .non ∧ m = 0 ∧ us = []) → Q (.ref p) H') : pr_least_load K v0 v1 H Q E := by
  have n3 : 3 ≤ n := ok.1
  refine ⟨n, ws, [], d0, ok, d1, hz, hw, (fun x hx => by cases hx), fun e p u H' np nu _ s ep eu => ?_, fun ne p u x m us P H' np nu _ s ep eu lu tu isl m1 m2 dP okP depP ll => ?_⟩
  · subst e
    have il : ∀ vs : List Int, IsL n [] vs 0 := fun vs => ⟨⟨0, ⟨by omega, by omega⟩, rfl⟩, fun e _ _ => Int.le_refl _⟩
    exact h p u .non 0 [] H' np nu s ep eu rfl (fun u hu => by cases hu) (il _) (by omega) (by simp) (fun vs k _ hk => by have := hk.one (il vs); omega) (fun z => absurd rfl z) (fun _ => ⟨rfl, rfl, rfl⟩)
  · exact h p u x m us H' np nu s ep eu lu tu isl (by omega) m2 (fun vs k tv hk => least_of n3 hw okP tv hk) (fun _ => ⟨m1, P, dP, okP, depP, ll⟩) (fun z => absurd z ne)


theorem k_slT {K : PySem.W.Frag} {H : Hp} {Q : VK} {a : Addr} {xs : List V} {lo hi : Option Int} (hs : SqT K H a xs) (hw : ¬ (HT.sIx xs.length 0 lo = 0 ∧ HT.sIx xs.length xs.length hi = xs.length)) (h : ∀ p H', H p = none → Same H H' → H' p = some (.tup (cutV xs lo hi)) → Q (.ref p) H') : rSlT K (.ref a) lo hi H Q := ⟨a, xs, rfl, hs, hw, fun p np => h p _ np (same_new np) upd_same⟩
theorem forT {K : PySem.W.Frag} {σ : L2.St} {H : Hp} {nx : L2.St → Hp → Prop} {rt : VK} {b : Addr} {xs : List V} {g : TG} {tb : TS} (hs0 : SqT K H b xs) (Pv : Nat → L2.St → Hp → Prop) (h0 : Pv 0 σ H) (hl : ∀ i σ H, i ≤ xs.length → Pv i σ H → SqT K H b xs)
    (hs : ∀ (i : Nat) x σ H, xs[i]? = some x → Pv i σ H → g x σ H fun σ2 H2 => tb ⟨Pv (i + 1), rt, nx, Pv (i + 1)⟩ σ2 H2) (hd : ∀ σ H, Pv xs.length σ H → nx σ H) :
    ∃ a, V.ref b = .ref a ∧ (∃ xs, SqT K H a xs) ∧ ∃ W : Nat → Nat → L2.St → Hp → Prop, (∃ m, W 0 m σ H) ∧ ∀ i m σ H, W i m σ H →
      ((Itt K a).stop i H ∧ nx σ H) ∨ ((Itt K a).go i H ∧ ∃ N : L2.St → Hp → Prop, (∀ σ' H', N σ' H' → ∃ m', m' < m ∧ W (i + 1) m' σ' H') ∧ ∀ x H', (Itt K a).yld i H x H' → g x σ H' fun σ2 H2 => tb ⟨N, rt, nx, N⟩ σ2 H2) :=
  ⟨b, rfl, ⟨xs, hs0⟩, for_tup (D := ⟨nx, rt, fun _ _ => False, fun _ _ => False⟩) Pv h0 hl hs hd⟩
theorem dpa3 {K : PySem.W.Frag} {H : Hp} {xs : List V} {ds : List PyData} (h : DpAll K H xs ds) (hl : ds.length = 3) : ∃ x y z a b c, xs = [x, y, z] ∧ ds = [a, b, c] ∧ Dp K H x a ∧ Dp K H y b ∧ Dp K H z c := by
  match ds, hl with
  | [a, b, c], _ =>
    cases h with | cons h1 h => cases h with | cons h2 h => cases h with | cons h3 h =>
      cases h
      exact ⟨_, _, _, _, _, _, rfl, rfl, h1, h2, h3⟩
theorem isD_str {d : PyData} (h : isD "str" d = true) : ∃ s, d = .str s := by
  cases d <;> first | exact ⟨_, rfl⟩ | (simp [isD, tyD] at h)
theorem isD_tup {d : PyData} (h : isD "tuple" d = true) : ∃ s, d = .tuple s := by
  cases d <;> first | exact ⟨_, rfl⟩ | (simp [isD, tyD] at h)
theorem isD_list {d : PyData} (h : isD "list" d = true) : ∃ s, d = .list s := by
  cases d <;> first | exact ⟨_, rfl⟩ | (simp [isD, tyD] at h)
theorem dp_whole {K : PySem.W.Frag} {H : Hp} {v : V} {d : PyData} (h : Dp K H v d) (w : wholeD d = true) : v = .int (intD d) := by
  rw [whole_int w] at h
  exact dp_int h
theorem bcases (b : Bool) : b = true ∨ b = false := by cases b <;> simp
def pr_is_turning (K : PySem.W.Frag) (v0 v1 : V) (H : Hp) (Q : VK) (_ : XK) : Prop := ∃ (ws : List (Int × Int)) (D : PyData), Dp K H v0 (dPairs ws) ∧ Dp K H v1 D ∧ ∀ b, (b = true ↔ ∃ us, D = dInts us ∧ TurnOk ws us) → Q (.bl b) H
def t_is_turning (K : PySem.W.Frag) : TS :=
  (tSeq (tIfS (tOr (tNot (tB (tCB (rIsi K) (tCons (tVar 1) (tCons (tC (.ty "list")) tNil))))) (tTest (tOp rNe (tCB (rLenX K) (tCons (tVar 1) tNil)) (tCB (rLenX K) (tCons (tVar 0) tNil))))) (tRet (tC (.bl false))) tNext)
    (tSeq (tFor (iList K (tVar 1)) (gName 2)
      (tIfS (tOr (tNot (tB (tCall (sp_is_whole K) [] E0 (tCons (tVar 2) tNil)))) (tOr (tTest (tOp xLt (tVar 2) (tC (.int 0)))) (tTest (tOp xGt (tVar 2) (tC (.int 1)))))) (tRet (tC (.bl false))) tNext))
    (tRet (tC (.bl true)))))
theorem all_ints : ∀ {ds : List PyData}, (∀ d ∈ ds, wholeD d = true) → ds = (ds.map intD).map PyData.int
  | [], _ => rfl
  | d :: r, h => by
    rw [List.map_cons, List.map_cons, ← all_ints (ds := r) fun x hx => h x (List.mem_cons_of_mem _ hx), ← whole_int (h d List.mem_cons_self)]
theorem pure_is_turning {v0 v1 : V} {H : Hp} {Q : VK} {E : XK} (hh : pr_is_turning K v0 v1 H Q E) : t_is_turning K ⟨fun _ H' => Q .non H', Q, fun _ _ => False, fun _ _ => False⟩ [some v0, some v1, none] H := by
  obtain ⟨ws, D, d0, d1, q⟩ := hh
  have no : (∀ us, D = dInts us → ¬ TurnOk ws us) → Q (.bl false) H := fun n => q false ⟨(fun z => by cases z), fun ⟨us, e, t⟩ => absurd t (n us e)⟩
  obtain ⟨b, ys, rfl, hb, dys⟩ := dp_list d0
  have lys : ys.length = ws.length := by rw [dpa_len dys, List.length_map]
  unfold t_is_turning
  wtm_at "s"
  refine k_isiListD d1 ?_
  rcases (bcases (isD "list" D)).symm with c1 | c1
  · rw [c1]
    wtm_at "s"
    exact no fun us e => by rw [e] at c1; cases c1
  obtain ⟨ds, rfl⟩ := isD_list c1
  rw [c1]
  obtain ⟨l, zs, rfl, hl, dzs⟩ := dp_list d1
  have lzs := dpa_len dzs
  wtm_at "s"
  refine k_itn (fun c2 => ?_) (fun c2 => ?_)
  · wtm_at "s"
    refine no fun us e t => c2 ?_
    have e' : ds = us.map PyData.int := by injection e
    rw [lzs, e', List.length_map, lys, t.1]
  wtm_at "s"
  refine forL hl (fun i σ' H' => H' = H ∧ (∃ k2, σ' = [some (.ref b), some (.ref l), k2]) ∧ ∀ j d, j < i → ds[j]? = some d → wholeD d = true ∧ 0 ≤ intD d ∧ intD d ≤ 1) ⟨rfl, ⟨_, rfl⟩, fun j d hj => by omega⟩ (fun i σ' H' _ z => by rw [z.1]; exact hl) ?_ ?_
  · rintro i x σ' H1 hx ⟨rfl, ⟨k2, rfl⟩, ih⟩
    obtain ⟨d, hd, dd⟩ := dpa_get dzs hx
    have bad : (wholeD d = true → ¬ (0 ≤ intD d ∧ intD d ≤ 1)) → Q (.bl false) H1 := fun n => no fun us e t => by
      have e' : ds = us.map PyData.int := by injection e
      rw [e', List.getElem?_map] at hd
      obtain ⟨u, hu, rfl⟩ := Option.map_eq_some_iff.mp hd
      exact n rfl (t.2 u (List.mem_of_getElem? hu))
    wtm_at "s"
    refine ⟨_, rfl, d, dd, ?_⟩
    rcases (bcases (wholeD d)).symm with c4 | c4
    · rw [c4]
      wtm_at "s"
      exact bad fun z => by rw [z] at c4; cases c4
    · obtain rfl := dp_whole dd c4
      rw [c4]
      wtm_at "s"
      refine k_it (fun c5 => ?_) (fun c5 => ?_)
      · wtm_at "s"
        exact bad fun _ z => by omega
      wtm_at "s"
      refine k_it (fun c6 => ?_) (fun c6 => ?_)
      · wtm_at "s"
        exact bad fun _ z => by omega
      · wtm_at "s"
        refine ⟨rfl, ⟨_, rfl⟩, fun j d' hj hd' => ?_⟩
        by_cases z : j = i
        · rw [z, hd] at hd'; cases hd'; exact ⟨c4, by omega, by omega⟩
        · exact ih j d' (by omega) hd'
  · rintro σ' H1 ⟨rfl, ⟨k2, rfl⟩, ih⟩
    have ih' : ∀ d ∈ ds, wholeD d = true ∧ 0 ≤ intD d ∧ intD d ≤ 1 := fun d hd => by
      obtain ⟨j, hj, e⟩ := List.mem_iff_getElem.mp hd
      exact ih j d (by omega) (by rw [List.getElem?_eq_getElem hj, e])
    have e := all_ints (ds := ds) fun d hd => (ih' d hd).1
    wtm_at "s"
    refine q true ⟨fun _ => ⟨ds.map intD, congrArg PyData.list e, ?_, fun u hu => ?_⟩, fun _ => rfl⟩
    · rw [List.length_map]; omega
    · obtain ⟨d, hd, rfl⟩ := List.mem_map.mp hu
      exact (ih' d hd).2
abbrev sp_is_turning (K : PySem.W.Frag) : Sp := fun vs H Q E => ∃ v0 v1, vs = [v0, v1] ∧ pr_is_turning K v0 v1 H Q E
theorem ok_is_turning (T : Txt K mg A) : FnOk P w K mg base CX0 2 A.a_is_turning A.d_is_turning ["ways", "turning"] (sp_is_turning K) := by
  refine T.F_is_turning.ok sc_is_turning (fun vs H Q E h => by obtain ⟨v0, v1, rfl, _⟩ := h; rfl) (fun cdv A0 outer s H vs Q E hr h => ?_)
  obtain ⟨v0, v1, rfl, h⟩ := h
  exact ⟨t_is_turning K, (pss_cons (ps_if (PW.pt (pw_or (pt_not (pt_val (pe_callB q_isi (by rfl) T.z_isinstance (by decide +kernel) (pa_cons (pv 1) (pa_cons (pe_bltn (v := .ty "list") (by rfl) T.z_list (by decide +kernel) rfl) pa_nil))))) (pw_or1 (pt_cmpR op_ne (pe_callB q_len (by rfl) T.z_len (by decide +kernel) (pa_cons (pv 1) pa_nil)) (pe_callB q_len (by rfl) T.z_len (by decide +kernel) (pa_cons (pv 0) pa_nil)) (nomark _))))) (pss_one (ps_ret pe_bl)) pss_nil)
      (pss_cons (ps_for PassesOwn.never rfl (pi_list (pv 1)) (pg_name (i := 2) sc_is_turning.nd rfl (Or.inl rfl))
      (pss_one (ps_if (PW.pt (pw_or (pt_not (pt_val (pe_call (ok_is_whole T) (hr.mono (by decide)) (by rfl) T.g_is_whole T.F_is_whole.kp T.b_is_whole .nil pass0 (pa_cons (pv 2) pa_nil)))) (pw_or (pt_cmpR op_lt (pv 2) pe_int (nomark _)) (pw_or1 (pt_cmpR op_gt (pv 2) pe_int (nomark _)))))) (pss_one (ps_ret pe_bl)) pss_nil)))
      (pss_one (ps_ret pe_bl)))), pure_is_turning h⟩
def pr_turned (K : PySem.W.Frag) (v0 v1 v2 : V) (H : Hp) (Q : VK) (_ : XK) : Prop := ∃ (n : Int) (ws : List (Int × Int)) (us : List Int), Dp K H v0 (Net.ring n).d ∧ (Net.ring n).ok ∧ Dp K H v1 (dPairs ws) ∧ ws.length ≤ 10000 ∧ (∀ w ∈ ws, isWay (.ring n) w.1 w.2) ∧ Dp K H v2 (dInts us) ∧ TurnOk ws us ∧
  ∀ p ys H', H p = none → Same H H' → H' p = some (.lst ys) → DpAll K (hid [p] H') ys ((turnAll ws us).map dPair) → Q (.ref p) H'
def t_turned (K : PySem.W.Frag) : TS :=
  (tSeq (tDrop (tCall (sp_look_ring K) [] E0 (tCons (tVar 0) tNil)))
    (tSeq (tDrop (tCall (sp_look_ways K) [] E0 (tCons (tVar 0) (tCons (tVar 1) tNil))))
    (tSeq (tIfS (tNot (tB (tCall (sp_is_turning K) [] E0 (tCons (tVar 1) (tCons (tVar 2) tNil))))) tNever tNext)
    (tRet (tLc (iZip K (tCons (tVar 1) (tCons (tVar 2) tNil))) (gTup K 2 (gCons (gTup K 2 (gCons (gName 4) (gCons (gName 5) gNil))) (gCons (gName 3) gNil))) tYes (tOp (rIxL K) (tLst (tCons (tTup (tCons (tVar 4) (tCons (tVar 5) tNil))) (tCons (tTup (tCons (tVar 5) (tCons (tVar 4) tNil))) tNil))) (tVar 3)) [3, 4, 5])))))
theorem turn_take {ws : List (Int × Int)} {us : List Int} {i : Nat} {w : Int × Int} {u : Int} (hw : ws[i]? = some w) (hu : us[i]? = some u) : turnAll (ws.take (i + 1)) (us.take (i + 1)) = turnAll (ws.take i) (us.take i) ++ [turnW w u] := by
  unfold turnAll
  have l1 : i < ws.length := (List.getElem?_eq_some_iff.mp hw).1
  have l2 : i < us.length := (List.getElem?_eq_some_iff.mp hu).1
  rw [List.take_add_one, List.take_add_one, hw, hu, List.zipWith_append (by simp; omega)]
  rfl
theorem pure_turned {v0 v1 v2 : V} {H : Hp} {Q : VK} {E : XK} (h : pr_turned K v0 v1 v2 H Q E) : t_turned K ⟨fun _ H' => Q .non H', Q, fun _ _ => False, fun _ _ => False⟩ [some v0, some v1, some v2, none, none, none] H := by
  obtain ⟨n, ws, us, hd, ok, hw, hz, hok, hu, htu, q⟩ := h
  unfold t_turned
  wtm_at "s"
  refine ⟨_, rfl, n, hd, ok, ?_⟩
  wtm_at "s"
  refine ⟨_, _, rfl, .ring n, ws, hd, ok, hw, hz, hok, ?_⟩
  wtm_at "s"
  refine ⟨_, _, rfl, ws, dInts us, hw, hu, fun r hr => ?_⟩
  obtain rfl := hr.mpr ⟨us, rfl, htu⟩
  obtain ⟨b, xs, rfl, hb, hxs⟩ := dp_list hw
  obtain ⟨c, rfl, hc⟩ := dp_ints hu
  have hl := dpa_len hxs
  rw [List.length_map] at hl
  wtm_at "s"
  refine ⟨b, c, xs, us.map V.int, rfl, hb, hc, fun D nD => ?_⟩
  refine lc_it (walk_zip (n := ws.length) (xs := xs) (ys := us.map V.int) (by rw [List.length_map, htu.1]; omega)) (fun i H' => Same H H' ∧ ∃ ys, H' D = some (.lst ys) ∧ DpAll K (hid [D] H') ys ((turnAll (ws.take i) (us.take i)).map dPair)) ⟨same_new nD, [], upd_same, .nil⟩ (fun i H' _ e => ⟨e.1.seq hb, e.1.seq hc⟩) ?_ ?_
  · rintro i x H1 H2 hi ⟨sm, ys, hD, hys⟩ ⟨T, x1, x2, rfl, nT, rfl, hx1, hx2⟩
    obtain ⟨d, hd1, hd2⟩ := dpa_get hxs hx1
    rw [List.getElem?_map] at hd1
    obtain ⟨w, hw1, rfl⟩ := Option.map_eq_some_iff.mp hd1
    have hx2 : (us.map V.int)[i]? = some x2 := hx2
    rw [List.getElem?_map] at hx2
    obtain ⟨u, hu1, rfl⟩ := Option.map_eq_some_iff.mp hx2
    obtain ⟨u0, u1⟩ := htu.2 u (List.mem_of_getElem? hu1)
    obtain ⟨p, rfl, hp⟩ := dp_pair hd2
    have s2 := same_new (o := .tup [V.ref p, .int u]) nT
    have e2 := upd_same (H := H1) (a := T) (o := .tup [V.ref p, .int u])
    generalize upd H1 T (.tup [V.ref p, .int u]) = H3 at s2 e2 ⊢
    have hp3 : SqT K H3 p [.int w.1, .int w.2] := same_seqT (sm.trans s2) hp
    wtm_at "s"
    refine ⟨sz (by simp), fun t1 n1 => ?_⟩
    have s4 := same_new (o := .tup [.int w.1, .int w.2]) n1
    have e4 := upd_same (H := H3) (a := t1) (o := .tup [.int w.1, .int w.2])
    generalize upd H3 t1 (.tup [.int w.1, .int w.2]) = H4 at s4 e4 ⊢
    wtm_at "s"
    refine ⟨sz (by simp), fun t2 n2 => ?_⟩
    have s5 := same_new (o := .tup [.int w.2, .int w.1]) n2
    have e5 := upd_same (H := H4) (a := t2) (o := .tup [.int w.2, .int w.1])
    generalize upd H4 t2 (.tup [.int w.2, .int w.1]) = H5 at s5 e5 ⊢
    wtm_at "s"
    refine ⟨sz (by simp), fun t3 n3 => ?_⟩
    have s6 := same_new (o := .lst [.ref t1, .ref t2]) n3
    have e6 := upd_same (H := H5) (a := t3) (o := .lst [.ref t1, .ref t2])
    generalize upd H5 t3 (.lst [.ref t1, .ref t2]) = H6 at s6 e6 ⊢
    wtm_at "s"
    have s16 : Same H1 H6 := s2.trans (s4.trans (s5.trans s6))
    have hD6 := s16 _ _ hD
    have nd1 : t1 ≠ D := fun e => by rw [e, s2 _ _ hD] at n1; cases n1
    have nd2 : t2 ≠ D := fun e => by rw [e, (s2.trans s4) _ _ hD] at n2; cases n2
    have lys := dpa_len hys
    rw [List.length_map] at lys
    have lys2 : ys.length < 100000 := by
      rw [lys]; unfold turnAll; rw [List.length_zipWith]; simp; omega
    have tk := turn_take hw1 hu1
    have base6 : DpAll K (hid [D] H6) ys ((turnAll (ws.take i) (us.take i)).map dPair) := dpa_same (hid_mono s16) hys
    have c : u = 0 ∨ u = 1 := by omega
    rcases c with rfl | rfl
    · refine k_ixL (sl e6) (v := .ref t1) rfl ?_
      refine ⟨ys, hD6, szl lys2, same_mut (sm.trans s16) nD, ys ++ [.ref t1], upd_same, ?_⟩
      rw [hid_upd (by simp), tk, List.map_append]
      refine dpa_app base6 (.cons (dp_of_pair (stp ?_)) .nil)
      rw [hid_ne (by simpa using nd1)]
      exact (s5.trans s6) _ _ e4
    · refine k_ixL (sl e6) (v := .ref t2) rfl ?_
      refine ⟨ys, hD6, szl lys2, same_mut (sm.trans s16) nD, ys ++ [.ref t2], upd_same, ?_⟩
      rw [hid_upd (by simp), tk, List.map_append]
      refine dpa_app base6 (.cons (dp_of_pair (stp ?_)) .nil)
      rw [hid_ne (by simpa using nd2)]
      exact s6 _ _ e5
  · rintro H' ⟨sm, ys, hD, hys⟩
    rw [List.take_of_length_le (by omega), List.take_of_length_le (by rw [htu.1]; omega)] at hys
    exact q D ys H' nD sm hD hys
abbrev sp_turned (K : PySem.W.Frag) : Sp := fun vs H Q E => ∃ v0 v1 v2, vs = [v0, v1, v2] ∧ pr_turned K v0 v1 v2 H Q E
theorem ok_turned (T : Txt K mg A) : FnOk P w K mg base CX0 5 A.a_turned A.d_turned ["net", "ways", "turning"] (sp_turned K) := by
  refine T.F_turned.ok sc_turned (fun vs H Q E h => by obtain ⟨v0, v1, v2, rfl, _⟩ := h; rfl) (fun cdv A0 outer s H vs Q E hr h => ?_)
  obtain ⟨v0, v1, v2, rfl, h⟩ := h
  exact ⟨t_turned K, (pss_cons (ps_expr (pe_call (ok_look_ring T) (hr.mono (by decide)) (by rfl) T.g_look_ring T.F_look_ring.kp T.b_look_ring .nil pass0 (pa_cons (pv 0) pa_nil)))
      (pss_cons (ps_expr (pe_call (ok_look_ways T) (hr.mono (by decide)) (by rfl) T.g_look_ways T.F_look_ways.kp T.b_look_ways .nil pass0 (pa_cons (pv 0) (pa_cons (pv 1) pa_nil))))
      (pss_cons (ps_if (pt_not (pt_val (pe_call (ok_is_turning T) (hr.mono (by decide)) (by rfl) T.g_is_turning T.F_is_turning.kp T.b_is_turning .nil pass0 (pa_cons (pv 1) (pa_cons (pv 2) pa_nil))))) (pss_one ps_never) pss_nil)
      (pss_one (ps_ret (pe_lc (own := [("turn", 3), ("a", 4), ("b", 5)]) (by rfl) sc_turned.nd (pi_zip (by rfl) T.z_zip (pa_cons (pv 1) (pa_cons (pv 2) pa_nil))) (blkOk_by (own := [("turn", 3), ("a", 4), ("b", 5)]) (N := ["net", "ways", "turning", "turn", "a", "b"]) (sc := defScope s_turned) (by decide +kernel)) (fun _ _ _ _ _ => (pg_tup (by rfl) (pgs_cons (pg_tup (by rfl) (pgs_cons (pg_name (i := 4) sc_turned.nd rfl (Or.inl rfl)) (pgs_cons (pg_name (i := 5) sc_turned.nd rfl (Or.inl rfl)) pgs_nil))) (pgs_cons (pg_name (i := 3) sc_turned.nd rfl (Or.inl rfl)) pgs_nil)))) (fun _ _ _ _ _ => pts_nil) (fun _ _ _ _ _ => (pe_ix ix_list (pe_lst (pa_cons (pe_tup (pa_cons (pv 4) (pa_cons (pv 5) pa_nil))) (pa_cons (pe_tup (pa_cons (pv 5) (pa_cons (pv 4) pa_nil))) pa_nil))) (pv 3) (fun _ _ => rfl))))))))), pure_turned h⟩


def partsB (n e f : Int) (w : Int × Int) : Bool := decide (OnTie (.ring n) w.1 w.2 e) != decide (OnTie (.ring n) w.1 w.2 f)
/-- the numbers of the ways that e and f part -/
def partedOf (n e f : Int) (ws : List (Int × Int)) : List Int := ((List.range ws.length).filter fun k => match ws[k]? with | some w => partsB n e f w | none => false).map fun k : Nat => (k : Int)
def pr_parted (K : PySem.W.Frag) (v0 v1 v2 v3 : V) (H : Hp) (Q : VK) (_ : XK) : Prop := ∃ (n : Int) (ws : List (Int × Int)) (e f : Int), v2 = .int e ∧ v3 = .int f ∧ Dp K H v0 (Net.ring n).d ∧ (Net.ring n).ok ∧ Dp K H v1 (dPairs ws) ∧ ws.length ≤ 10000 ∧ (∀ w ∈ ws, isWay (.ring n) w.1 w.2) ∧ 0 ≤ e ∧ e < n ∧ 0 ≤ f ∧ f < n ∧
  ∀ p H', H p = none → Same H H' → H' p = some (.lst (List.map V.int (partedOf n e f ws))) → Q (.ref p) H'
def t_parted (K : PySem.W.Frag) : TS :=
  (tSeq (tDrop (tCall (sp_look_ring K) [] E0 (tCons (tVar 0) tNil)))
    (tSeq (tDrop (tCall (sp_look_ways K) [] E0 (tCons (tVar 0) (tCons (tVar 1) tNil))))
    (tSeq (tIfS (tOr (tTest (tOp xLt (tCB rMin2 (tCons (tVar 2) (tCons (tVar 3) tNil))) (tC (.int 0)))) (tTest (tOp xGe (tCB rMax2 (tCons (tVar 2) (tCons (tVar 3) tNil))) (tOp (rIxT K) (tVar 0) (tC (.int 1)))))) tNever tNext)
    (tSeq (tAsg (tLst tNil) (gName 4))
    (tSeq (tFor (iRng1 (tCons (tCB (rLenX K) (tCons (tVar 1) tNil)) tNil)) (gName 5)
      (tSeq (tAsg (tCall (sp_ties_on K) [] E0 (tCons (tVar 0) (tCons (tOp (rIxL K) (tVar 1) (tVar 5)) tNil))) (gName 6))
    (tIfS (tTest (tOp rNe (tOp (rIn K false) (tVar 2) (tVar 6)) (tOp (rIn K false) (tVar 3) (tVar 6)))) (tDrop (tBM K "list" rAppend (tVar 4) (tCons (tVar 5) tNil))) tNext)))
    (tRet (tVar 4)))))))
theorem range_filter_succ (P : Nat → Bool) (i : Nat) : (List.range (i + 1)).filter P = (List.range i).filter P ++ if P i = true then [i] else [] := by
  rw [List.range_succ, List.filter_append]
  by_cases c : P i = true <;> simp [c]
theorem pure_parted {v0 v1 v2 v3 : V} {H : Hp} {Q : VK} {E : XK} (h : pr_parted K v0 v1 v2 v3 H Q E) : t_parted K ⟨fun _ H' => Q .non H', Q, fun _ _ => False, fun _ _ => False⟩ [some v0, some v1, some v2, some v3, none, none, none] H := by
  obtain ⟨n, ws, e, f, rfl, rfl, hd, ok, hw, hz, hok, e0, e1, f0, f1, q⟩ := h
  obtain ⟨b, xs, rfl, hb, hxs⟩ := dp_list hw
  have hl := dpa_len hxs
  rw [List.length_map] at hl
  unfold t_parted
  wtm_at "s"
  refine ⟨_, rfl, n, hd, ok, ?_⟩
  wtm_at "s"
  refine ⟨_, _, rfl, .ring n, ws, hd, ok, hw, hz, hok, ?_⟩
  obtain ⟨a, y, rfl, hs, hy⟩ := dp_net hd
  obtain rfl := dp_int hy
  wtm_at "s"
  refine ⟨sz (by simp), fun fo nfo => ?_⟩
  have s1 := same_new (o := .lst []) nfo
  have e1' := upd_same (H := H) (a := fo) (o := .lst [])
  generalize upd H fo (.lst []) = H1 at s1 e1' ⊢
  wtm_at "s"
  rw [hl]
  refine forR (fun i σ' H' => Same H H' ∧ H' fo = some (.lst (List.map V.int (((List.range i).filter fun k => match ws[k]? with | some w => partsB n e f w | none => false).map fun k : Nat => (k : Int)))) ∧ ∃ k5 k6, σ' = [some (.ref a), some (.ref b), some (.int e), some (.int f), some (.ref fo), k5, k6]) ⟨s1, e1', none, none, rfl⟩ ?_ ?_
  · rintro i σ' H' hi ⟨sm, hf, k5, k6, rfl⟩
    have hi' : i < xs.length := by omega
    obtain ⟨x, hx⟩ : ∃ x, xs[i]? = some x := ⟨xs[i], List.getElem?_eq_getElem hi'⟩
    obtain ⟨d, hd1, hd2⟩ := dpa_get hxs hx
    rw [List.getElem?_map] at hd1
    obtain ⟨w, hw1, rfl⟩ := Option.map_eq_some_iff.mp hd1
    have wok := hok w (List.mem_of_getElem? hw1)
    have lenf : (((List.range i).filter fun k => match ws[k]? with | some w => partsB n e f w | none => false)).length ≤ i := by
      have := List.length_filter_le (fun k => match ws[k]? with | some w => partsB n e f w | none => false) (List.range i)
      simpa using this
    wtm_at "s"
    refine k_ixL (sm.seq hb) (by rw [Int.zero_add]; exact atI_nat hx) ?_
    wtm_at "s"
    refine ⟨_, _, rfl, .ring n, w.1, w.2, dp_same sm hd, dp_same sm hd2, ok, wok, fun tl ns H3 ntl s3 htl tt => ?_⟩
    have hf3 := s3 _ _ hf
    wtm_at "s"
    have b1 : decide (e ∈ ns) = decide (OnTie (.ring n) w.1 w.2 e) := by simp only [tt.mem]
    have b2 : decide (f ∈ ns) = decide (OnTie (.ring n) w.1 w.2 f) := by simp only [tt.mem]
    rw [b1, b2]
    have pb : partsB n e f w = !decide (decide (OnTie (.ring n) w.1 w.2 e) = decide (OnTie (.ring n) w.1 w.2 f)) := by
      unfold partsB
      cases decide (OnTie (.ring n) w.1 w.2 e) <;> cases decide (OnTie (.ring n) w.1 w.2 f) <;> rfl
    rw [← pb]
    have stp2 := range_filter_succ (fun k => match ws[k]? with | some w => partsB n e f w | none => false) i
    simp only [hw1] at stp2
    refine k_itb (fun c => ?_) (fun c => ?_)
    · wtm_at "s"
      refine k_tyL (sl hf3) ?_
      wtm_at "s"
      refine k_append hf3 (by simp; omega) ?_
      refine ⟨same_mut (sm.trans s3) nfo, ?_, _, _, rfl⟩
      rw [upd_same, stp2, if_pos c, List.map_append, List.map_append, Int.zero_add]
      rfl
    · wtm_at "s"
      refine ⟨sm.trans s3, ?_, _, _, rfl⟩
      rw [stp2, if_neg (by rw [c]; decide), List.append_nil]
      exact hf3
  · rintro σ' H' ⟨sm, hf, k5, k6, rfl⟩
    wtm_at "s"
    rw [Int.toNat_natCast] at hf
    exact q fo H' nfo sm hf
abbrev sp_parted (K : PySem.W.Frag) : Sp := fun vs H Q E => ∃ v0 v1 v2 v3, vs = [v0, v1, v2, v3] ∧ pr_parted K v0 v1 v2 v3 H Q E
theorem ok_parted (T : Txt K mg A) : FnOk P w K mg base CX0 5 A.a_parted A.d_parted ["net", "ways", "e", "f"] (sp_parted K) := by
  refine T.F_parted.ok sc_parted (fun vs H Q E h => by obtain ⟨v0, v1, v2, v3, rfl, _⟩ := h; rfl) (fun cdv A0 outer s H vs Q E hr h => ?_)
  obtain ⟨v0, v1, v2, v3, rfl, h⟩ := h
  exact ⟨t_parted K, (pss_cons (ps_expr (pe_call (ok_look_ring T) (hr.mono (by decide)) (by rfl) T.g_look_ring T.F_look_ring.kp T.b_look_ring .nil pass0 (pa_cons (pv 0) pa_nil)))
      (pss_cons (ps_expr (pe_call (ok_look_ways T) (hr.mono (by decide)) (by rfl) T.g_look_ways T.F_look_ways.kp T.b_look_ways .nil pass0 (pa_cons (pv 0) (pa_cons (pv 1) pa_nil))))
      (pss_cons (ps_if (PW.pt (pw_or (pt_cmpR op_lt (pe_callB (q_min2 (by rfl)) (by rfl) T.z_min (by decide +kernel) (pa_cons (pv 2) (pa_cons (pv 3) pa_nil))) pe_int (nomark _)) (pw_or1 (pt_cmpR op_ge (pe_callB (q_max2 (by rfl)) (by rfl) T.z_max (by decide +kernel) (pa_cons (pv 2) (pa_cons (pv 3) pa_nil))) (pe_ix ix_tup (pv 0) pe_int (fun _ _ => rfl)) (nomark _))))) (pss_one ps_never) pss_nil)
      (pss_cons (ps_set (i := 4) sc_parted.nd rfl (Or.inl rfl) (pe_lst pa_nil))
      (pss_cons (ps_for PassesOwn.never rfl (pi_range1 (by rfl) T.z_range (pa_cons (pe_callB q_len (by rfl) T.z_len (by decide +kernel) (pa_cons (pv 1) pa_nil)) pa_nil)) (pg_name (i := 5) sc_parted.nd rfl (Or.inl rfl))
      (pss_cons (ps_set (i := 6) sc_parted.nd rfl (Or.inl rfl) (pe_call (ok_ties_on T) (hr.mono (by decide)) (by rfl) T.g_ties_on T.F_ties_on.kp T.b_ties_on .nil pass0 (pa_cons (pv 0) (pa_cons (pe_ix ix_list (pv 1) (pv 5) (fun _ _ => rfl)) pa_nil))))
      (pss_one (ps_if (pt_cmpR op_ne (pe_cmpR op_in_seq (pv 2) (pv 6) (by rfl)) (pe_cmpR op_in_seq (pv 3) (pv 6) (by rfl)) (nomark _)) (pss_one (ps_expr (pe_bm PySem.F.plainAttrs_list PySem.F.slot_list_append PySem.F.type_list_append mt_append (pv 4) (pa_cons (pv 5) pa_nil)))) pss_nil))))
      (pss_one (ps_ret (pv 4)))))))), pure_parted h⟩


/-- ways of one hue do not meet -/
theorem meet_iff {N : Net} (ok : N.ok) {w v : Int × Int} (hw : isWay N w.1 w.2) (hv : isWay N v.1 v.2) : meetB N w v = true ↔ ∃ t, OnTie N w.1 w.2 t ∧ OnTie N v.1 v.2 t := by
  unfold meetB
  rw [common_iff]
  constructor
  · rintro ⟨t, a, b⟩; exact ⟨t, (tiesF_mem ok hw t).mp a, (tiesF_mem ok hv t).mp b⟩
  · rintro ⟨t, a, b⟩; exact ⟨t, (tiesF_mem ok hw t).mpr a, (tiesF_mem ok hv t).mpr b⟩
/-! ### ties and hues from below -/
/-! ### the number of hues that a right paper shows is the least -/
theorem flen_split {α : Type} (p : α → Bool) : ∀ (W : List α), (W.filter p).length + (W.filter fun x => !p x).length = W.length
  | [] => rfl
  | x :: r => by
    have ih := flen_split p r
    rw [List.filter_cons, List.filter_cons]
    cases c : p x with
    | true => simp only [if_true, Bool.not_true, Bool.false_eq_true, if_false, List.length_cons]; omega
    | false => simp only [if_true, Bool.not_false, Bool.false_eq_true, if_false, List.length_cons]; omega
/-- classes of at most k each -/
theorem cls_le {α : Type} (g : α → Int) (k : Nat) : ∀ (f : Nat) (W : List α), (∀ i ∈ W, 0 ≤ g i ∧ g i < f) → (∀ c : Int, (W.filter fun i => decide (g i = c)).length ≤ k) → W.length ≤ f * k
  | 0, W, hr, _ => by
    cases W with
    | nil => simp
    | cons x r => have := hr x List.mem_cons_self; omega
  | f + 1, W, hr, hk => by
    have sp := flen_split (fun i => decide (g i = (f : Int))) W
    have ih := cls_le g k f (W.filter fun x => !decide (g x = (f : Int))) (fun i hi => by
      obtain ⟨h1, h2⟩ := List.mem_filter.mp hi
      have := hr i h1
      have ne : g i ≠ (f : Int) := by simpa using h2
      omega) (fun c => Nat.le_trans (by
        rw [List.filter_filter]
        have e : (W.filter fun i => decide (g i = c) && !decide (g i = (f : Int))) = ((W.filter fun i => decide (g i = c)).filter fun x => !decide (g x = (f : Int))) := by
          rw [List.filter_filter]
          congr 1
          funext x
          rw [Bool.and_comm]
        rw [e]
        exact List.length_filter_le _ _) (hk c))
    have := hk (f : Int)
    rw [Nat.succ_mul]
    omega
theorem idx_filter {α : Type} (d : α) (p : α → Bool) (ws : List α) : (ws.filter p).length = ((List.range ws.length).filter fun i => p (ws.getD i d)).length := by
  have e : ws = (List.range ws.length).map fun i => ws.getD i d := by
    refine List.ext_getElem? fun i => ?_
    rw [List.getElem?_map]
    by_cases c : i < ws.length
    · rw [List.getElem?_range c, List.getElem?_eq_getElem c]
      simp [List.getD_eq_getElem?_getD, c]
    · rw [List.getElem?_eq_none (by omega), List.getElem?_eq_none (by simpa using c)]; rfl
  conv => lhs; rw [e]
  rw [List.filter_map, List.length_map]
  rfl
theorem one_at_most {l : List Nat} (nd : l.Nodup) (h : ∀ a ∈ l, ∀ b ∈ l, a = b) : l.length ≤ 1 := by
  match l, nd with
  | [], _ => simp
  | [_], _ => simp
  | a :: b :: r, nd =>
    have := h a (by simp) b (by simp)
    rw [this] at nd
    exact absurd List.mem_cons_self (List.nodup_cons.mp nd).1
theorem proper_apart {N : Net} {ws : List (Int × Int)} (ok : N.ok) (hok : ∀ w ∈ ws, isWay N w.1 w.2) {h : Int} {g : Nat → Int} (p : Proper (meetF N ws) h g) {i j : Nat} (hi : i < ws.length) (hj : j < ws.length) (hij : i ≠ j) {t : Int} (a : OnTie N (ws.getD i (0, 0)).1 (ws.getD i (0, 0)).2 t) (b : OnTie N (ws.getD j (0, 0)).1 (ws.getD j (0, 0)).2 t) : g i ≠ g j := by
  have wi : isWay N (ws.getD i (0, 0)).1 (ws.getD i (0, 0)).2 := by
    rw [List.getD_eq_getElem?_getD, List.getElem?_eq_getElem hi]; exact hok _ (List.getElem_mem _)
  have wj : isWay N (ws.getD j (0, 0)).1 (ws.getD j (0, 0)).2 := by
    rw [List.getD_eq_getElem?_getD, List.getElem?_eq_getElem hj]; exact hok _ (List.getElem_mem _)
  have hm : meetB N (ws.getD i (0, 0)) (ws.getD j (0, 0)) = true := (meet_iff ok wi wj).mpr ⟨t, a, b⟩
  have := (p i (by rw [meetF_len]; exact hi)).2 (j : Int) (by rw [meetF_get hi]; exact meetRow_mem.mpr ⟨hj, fun z => hij z.symm, hm⟩)
  rw [Int.toNat_natCast] at this
  exact fun z => this z.symm
theorem tie_low {N : Net} {ws : List (Int × Int)} (ok : N.ok) (hok : ∀ w ∈ ws, isWay N w.1 w.2) {f : Nat} {g : Nat → Int} (p : Proper (meetF N ws) f g) (t : Int) : cnt N ws t ≤ f := by
  unfold cnt
  rw [idx_filter (0, 0)]
  have mem : ∀ i ∈ (List.range ws.length).filter (fun i => decide (OnTie N (ws.getD i (0, 0)).1 (ws.getD i (0, 0)).2 t)), i < ws.length ∧ OnTie N (ws.getD i (0, 0)).1 (ws.getD i (0, 0)).2 t := fun i hi => by
    obtain ⟨h1, h2⟩ := List.mem_filter.mp hi
    exact ⟨List.mem_range.mp h1, of_decide_eq_true h2⟩
  have nd : ((List.range ws.length).filter (fun i => decide (OnTie N (ws.getD i (0, 0)).1 (ws.getD i (0, 0)).2 t))).Nodup := List.nodup_range.filter _
  have := cls_le g 1 f _ (fun i hi => (p i (by rw [meetF_len]; exact (mem i hi).1)).1) (fun c => one_at_most (nd.filter _) fun a ha b hb => by
    obtain ⟨a1, a2⟩ := List.mem_filter.mp ha
    obtain ⟨b1, b2⟩ := List.mem_filter.mp hb
    refine Classical.byContradiction fun ne => proper_apart ok hok p (mem a a1).1 (mem b b1).1 ne (mem a a1).2 (mem b b1).2 ?_
    rw [of_decide_eq_true a2, of_decide_eq_true b2])
  rw [Nat.mul_one] at this
  exact this
theorem mlen {N : Net} {ws : List (Int × Int)} : (meetF N ws).length = ws.length := meetF_len N ws
theorem proper_id {N : Net} {ws : List (Int × Int)} : Proper (meetF N ws) (ws.length : Nat) fun i => (i : Int) := fun i hi => by
  rw [mlen] at hi
  refine ⟨⟨Int.natCast_nonneg _, by show (i : Int) < ws.length; omega⟩, fun o ho e => ?_⟩
  have rg := (meetF_adj N ws).rng i o ho
  have e' : ((o.toNat : Nat) : Int) = (i : Int) := e
  omega
/-! ### hues, loads and turnings of lists of ways -/
def Colr (N : Net) (W : List (Int × Int)) (h : Int) : Prop := ∃ L : List ((Int × Int) × Int), L.map (·.1) = W ∧ (∀ x ∈ L, 0 ≤ x.2 ∧ x.2 < h) ∧ L.Pairwise fun x y => meetB N x.1 y.1 = true → x.2 ≠ y.2
theorem meet_comm (N : Net) (w v : Int × Int) : meetB N w v = meetB N v w := common_comm _ _
theorem proper_mk {N : Net} {W : List (Int × Int)} {h : Int} (F : Nat → Int) (rg : ∀ i, i < W.length → 0 ≤ F i ∧ F i < h) (ap : ∀ i j, i < W.length → j < W.length → i ≠ j → meetB N (W.getD i (0, 0)) (W.getD j (0, 0)) = true → F i ≠ F j) : Proper (meetF N W) h F := by
  intro i hi
  rw [meetF_len] at hi
  refine ⟨rg i hi, fun o ho => ?_⟩
  have r := (meetF_adj N W).rng i o ho
  rw [meetF_len] at r
  obtain ⟨j, rfl⟩ : ∃ j : Nat, o = j := ⟨o.toNat, by omega⟩
  rw [meetF_get hi] at ho
  obtain ⟨h1, h2, h3⟩ := meetRow_mem.mp ho
  rw [Int.toNat_natCast]
  exact fun z => ap i j hi h1 (fun y => h2 y.symm) h3 z.symm
theorem pair_apart {N : Net} {L : List ((Int × Int) × Int)} (pw : L.Pairwise fun x y => meetB N x.1 y.1 = true → x.2 ≠ y.2) {i j : Nat} (hi : i < L.length) (hj : j < L.length) (ne : i ≠ j) (hm : meetB N L[i].1 L[j].1 = true) : L[i].2 ≠ L[j].2 := by
  rcases Nat.lt_or_gt_of_ne ne with c | c
  · exact List.pairwise_iff_getElem.mp pw i j hi hj c hm
  · exact fun z => List.pairwise_iff_getElem.mp pw j i hj hi c (by rw [meet_comm]; exact hm) z.symm
theorem colr_iff {N : Net} {W : List (Int × Int)} {h : Int} : Colr N W h ↔ ∃ f, Proper (meetF N W) h f := by
  constructor
  · rintro ⟨L, rfl, rg, pw⟩
    obtain ⟨F, hF⟩ : ∃ F : Nat → Int, ∀ i (hi : i < L.length), F i = L[i].2 := ⟨fun i => (L.map (·.2)).getD i 0, fun i hi => by
      show (L.map (·.2)).getD i 0 = L[i].2
      rw [List.getD_eq_getElem?_getD, List.getElem?_map, List.getElem?_eq_getElem hi]; rfl⟩
    have hl : ∀ i (hi : i < L.length), (L.map (·.1)).getD i (0, 0) = L[i].1 := fun i hi => by
      rw [List.getD_eq_getElem?_getD, List.getElem?_map, List.getElem?_eq_getElem hi]; rfl
    refine ⟨F, proper_mk F (fun i hi => ?_) (fun i j hi hj ne hm => ?_)⟩
    · rw [List.length_map] at hi
      rw [hF i hi]
      exact rg _ (List.getElem_mem hi)
    · rw [List.length_map] at hi hj
      rw [hl i hi, hl j hj] at hm
      rw [hF i hi, hF j hj]
      exact pair_apart pw hi hj ne hm
  · rintro ⟨f, p⟩
    refine ⟨(List.range W.length).map fun i => (W.getD i (0, 0), f i), ?_, fun x hx => ?_, ?_⟩
    · rw [List.map_map]
      apply List.ext_getElem
      · simp
      · intro i h1 h2
        simp [List.getD_eq_getElem?_getD, List.getElem?_eq_getElem h2]
    · obtain ⟨i, hi, rfl⟩ := List.mem_map.mp hx
      exact (p i (by rw [meetF_len]; exact List.mem_range.mp hi)).1
    · refine List.pairwise_map.mpr (List.Pairwise.imp_of_mem (R := fun a b : Nat => a < b) ?_ List.pairwise_lt_range)
      intro i j hi hj hij hm
      have hi := List.mem_range.mp hi
      have hj := List.mem_range.mp hj
      have := (p i (by rw [meetF_len]; exact hi)).2 (j : Int) (by
        rw [meetF_get hi]
        exact meetRow_mem.mpr ⟨hj, by omega, hm⟩)
      rw [Int.toNat_natCast] at this
      exact fun z => this z.symm
theorem Colr.mono {N : Net} {W : List (Int × Int)} {h k : Int} (c : Colr N W h) (hk : h ≤ k) : Colr N W k := by
  obtain ⟨L, e, rg, pw⟩ := c
  exact ⟨L, e, fun x hx => by have := rg x hx; omega, pw⟩
/-- lists of pairs over permuted ways -/
theorem perm_pairs {α β : Type} {W W' : List α} (p : W.Perm W') : ∀ L : List (α × β), L.map (·.1) = W → ∃ L', L'.map (·.1) = W' ∧ L.Perm L' := by
  induction p with
  | nil => intro L e; exact ⟨[], rfl, by rw [List.map_eq_nil_iff.mp e]⟩
  | cons x _ ih =>
    intro L e
    cases L with
    | nil => cases e
    | cons a r =>
      injection e with e1 e2
      obtain ⟨r', h1, h2⟩ := ih r e2
      exact ⟨a :: r', by rw [List.map_cons, h1, ← e1], h2.cons a⟩
  | swap x y l =>
    intro L e
    cases L with
    | nil => cases e
    | cons a r =>
      cases r with
      | nil => injection e with _ e; cases e
      | cons b r =>
        injection e with e1 e2
        injection e2 with e2 e3
        exact ⟨b :: a :: r, by rw [List.map_cons, List.map_cons, e3, ← e1, ← e2], List.Perm.swap b a r⟩
  | trans _ _ ih1 ih2 =>
    intro L e
    obtain ⟨L1, h1, p1⟩ := ih1 L e
    obtain ⟨L2, h2, p2⟩ := ih2 L1 h1
    exact ⟨L2, h2, p1.trans p2⟩
theorem Colr.perm {N : Net} {W W' : List (Int × Int)} {h : Int} (c : Colr N W h) (p : W.Perm W') : Colr N W' h := by
  obtain ⟨L, e, rg, pw⟩ := c
  obtain ⟨L', e', p'⟩ := perm_pairs p L e
  refine ⟨L', e', fun x hx => rg x (p'.mem_iff.mpr hx), (p'.pairwise_iff ?_).mp pw⟩
  intro x y hxy hm z
  exact hxy (by rw [meet_comm]; exact hm) z.symm
theorem sub_pairs {α β : Type} {W W' : List α} (s : W'.Sublist W) : ∀ L : List (α × β), L.map (·.1) = W → ∃ L' : List (α × β), L'.map (·.1) = W' ∧ L'.Sublist L := by
  induction s with
  | slnil => intro L e; exact ⟨[], rfl, List.nil_sublist _⟩
  | cons a _ ih =>
    intro L e
    cases L with
    | nil => cases e
    | cons b r =>
      injection e with e1 e2
      obtain ⟨r', h1, h2⟩ := ih r e2
      exact ⟨r', h1, h2.cons b⟩
  | cons_cons a _ ih =>
    intro L e
    cases L with
    | nil => cases e
    | cons b r =>
      injection e with e1 e2
      obtain ⟨r', h1, h2⟩ := ih r e2
      exact ⟨b :: r', by rw [List.map_cons, h1, ← e1], h2.cons_cons b⟩
theorem Colr.sub {N : Net} {W W' : List (Int × Int)} {h : Int} (c : Colr N W h) (s : W'.Sublist W) : Colr N W' h := by
  obtain ⟨L, e, rg, pw⟩ := c
  obtain ⟨L', e', s'⟩ := sub_pairs s L e
  exact ⟨L', e', fun x hx => rg x (s'.subset hx), List.Pairwise.sublist s' pw⟩
theorem Colr.app {N : Net} {A B : List (Int × Int)} {h k : Int} (a : Colr N A h) (b : Colr N B k) (h0 : 0 ≤ h) (k0 : 0 ≤ k) : Colr N (A ++ B) (h + k) := by
  obtain ⟨L, rfl, rg, pw⟩ := a
  obtain ⟨M, rfl, rm, pm⟩ := b
  refine ⟨L ++ M.map fun x => (x.1, h + x.2), ?_, fun x hx => ?_, ?_⟩
  · rw [List.map_append, List.map_map]; rfl
  · rcases List.mem_append.mp hx with hx | hx
    · have := rg x hx; omega
    · obtain ⟨y, hy, rfl⟩ := List.mem_map.mp hx
      have := rm y hy
      exact ⟨by show 0 ≤ h + y.2; omega, by show h + y.2 < h + k; omega⟩
  · refine List.pairwise_append.mpr ⟨pw, List.pairwise_map.mpr (pm.imp fun hxy hm z => ?_), fun x hx y hy hm z => ?_⟩
    · rename_i x y
      have z : h + x.2 = h + y.2 := z
      exact hxy hm (by omega)
    · obtain ⟨u, hu, rfl⟩ := List.mem_map.mp hy
      have a1 := rg x hx
      have a2 := rm u hu
      have z : x.2 = h + u.2 := z
      omega
theorem Colr.all {N : Net} : ∀ W : List (Int × Int), Colr N W W.length
  | [] => ⟨[], rfl, fun x hx => (nomatch hx), .nil⟩
  | w :: r => by
    have one : Colr N [w] 1 := ⟨[(w, 0)], rfl, fun x hx => by rw [List.mem_singleton.mp hx]; exact ⟨Int.le_refl _, by show (0 : Int) < 1; decide⟩, List.pairwise_singleton _ _⟩
    have := one.app (Colr.all r) (by decide) (by omega)
    rw [List.length_cons, show ((r.length + 1 : Nat) : Int) = 1 + (r.length : Int) by omega]
    exact this
/-! loads -/
def LoadLe (N : Net) (W : List (Int × Int)) (m : Int) : Prop := ∀ t, (cnt N W t : Int) ≤ m
theorem LoadLe.mono {N : Net} {W : List (Int × Int)} {h k : Int} (c : LoadLe N W h) (hk : h ≤ k) : LoadLe N W k := fun t => by have := c t; omega
theorem cnt_perm {N : Net} {W W' : List (Int × Int)} (p : W.Perm W') (t : Int) : cnt N W t = cnt N W' t := by unfold cnt; exact (p.filter _).length_eq
theorem cnt_app {N : Net} (A B : List (Int × Int)) (t : Int) : cnt N (A ++ B) t = cnt N A t + cnt N B t := by unfold cnt; rw [List.filter_append, List.length_append]
theorem cnt_sub {N : Net} {W W' : List (Int × Int)} (s : W'.Sublist W) (t : Int) : cnt N W' t ≤ cnt N W t := by unfold cnt; exact (s.filter _).length_le
theorem cnt_le {N : Net} (W : List (Int × Int)) (t : Int) : cnt N W t ≤ W.length := by unfold cnt; exact List.length_filter_le _ _
theorem Colr.load {N : Net} {W : List (Int × Int)} (ok : N.ok) (hok : ∀ w ∈ W, isWay N w.1 w.2) {h : Nat} (c : Colr N W (h : Nat)) : LoadLe N W (h : Nat) := fun t => by
  obtain ⟨f, p⟩ := colr_iff.mp c
  exact Int.ofNat_le.mpr (tie_low ok hok p t)
/-! turnings -/
inductive TurR : List (Int × Int) → List (Int × Int) → Prop
  | nil : TurR [] []
  | cons {w v : Int × Int} {r s : List (Int × Int)} : (v = w ∨ v = (w.2, w.1)) → TurR r s → TurR (w :: r) (v :: s)
theorem TurR.refl : ∀ W : List (Int × Int), TurR W W
  | [] => .nil
  | _ :: r => .cons (.inl rfl) (TurR.refl r)
theorem TurR.all : ∀ {ws us : List (Int × Int)} , TurR ws us → ∃ ts : List Int, T01 ts ∧ ts.length = ws.length ∧ us = turnAll ws ts
  | _, _, .nil => ⟨[], (fun u hu => by cases hu), rfl, rfl⟩
  | _, _, .cons (w := w) (v := v) h r => by
    obtain ⟨ts, h1, h2, h3⟩ := TurR.all r
    rcases h with h | h
    · refine ⟨0 :: ts, fun u hu => ?_, by simp [h2], ?_⟩
      · rcases List.mem_cons.mp hu with rfl | hu
        · exact .inl rfl
        · exact h1 u hu
      · unfold turnAll at h3 ⊢
        rw [List.zipWith_cons_cons, h3, h]; rfl
    · refine ⟨1 :: ts, fun u hu => ?_, by simp [h2], ?_⟩
      · rcases List.mem_cons.mp hu with rfl | hu
        · exact .inr rfl
        · exact h1 u hu
      · unfold turnAll at h3 ⊢
        rw [List.zipWith_cons_cons, h3, h]; rfl
theorem turR_of : ∀ {ws : List (Int × Int)} {ts : List Int}, T01 ts → ts.length = ws.length → TurR ws (turnAll ws ts)
  | [], [], _, _ => .nil
  | [], _ :: _, _, h => by cases h
  | _ :: _, [], _, h => by cases h
  | w :: r, t :: ts, h, l => by
    have ih := turR_of (ws := r) (ts := ts) (fun u hu => h u (List.mem_cons_of_mem _ hu)) (by simpa using l)
    show TurR (w :: r) (turnW w t :: turnAll r ts)
    refine .cons ?_ ih
    rcases h t List.mem_cons_self with rfl | rfl
    · exact .inl rfl
    · exact .inr rfl
theorem TurR.perm {W W' : List (Int × Int)} (p : W.Perm W') : ∀ {T : List (Int × Int)}, TurR W T → ∃ T', TurR W' T' ∧ T.Perm T' := by
  induction p with
  | nil => intro T h; exact ⟨T, h, List.Perm.refl _⟩
  | cons x _ ih =>
    intro T h
    cases h with
    | cons hv r =>
      obtain ⟨T', h1, h2⟩ := ih r
      exact ⟨_, .cons hv h1, h2.cons _⟩
  | swap x y l =>
    intro T h
    cases h with
    | cons hv r => cases r with
      | cons hv2 r => exact ⟨_, .cons hv2 (.cons hv r), List.Perm.swap _ _ _⟩
  | trans _ _ ih1 ih2 =>
    intro T h
    obtain ⟨T1, h1, p1⟩ := ih1 h
    obtain ⟨T2, h2, p2⟩ := ih2 h1
    exact ⟨T2, h2, p1.trans p2⟩
theorem TurR.sub {W W' : List (Int × Int)} (s : W'.Sublist W) : ∀ {T : List (Int × Int)}, TurR W T → ∃ T', TurR W' T' ∧ T'.Sublist T := by
  induction s with
  | slnil => intro T h; exact ⟨[], .nil, List.nil_sublist _⟩
  | cons a _ ih =>
    intro T h
    cases h with
    | cons hv r =>
      obtain ⟨T', h1, h2⟩ := ih r
      exact ⟨T', h1, h2.cons _⟩
  | cons_cons a _ ih =>
    intro T h
    cases h with
    | cons hv r =>
      obtain ⟨T', h1, h2⟩ := ih r
      exact ⟨_, .cons hv h1, h2.cons_cons _⟩
theorem TurR.app : ∀ {A B S T : List (Int × Int)}, TurR A S → TurR B T → TurR (A ++ B) (S ++ T)
  | _, _, _, _, .nil, h => h
  | _, _, _, _, .cons hv r, h => .cons hv (TurR.app r h)
theorem TurR.ok {n : Int} : ∀ {W T : List (Int × Int)}, TurR W T → (∀ w ∈ W, isWay (.ring n) w.1 w.2) → ∀ w ∈ T, isWay (.ring n) w.1 w.2
  | _, _, .nil, _, w, h => by cases h
  | _, _, .cons (w := w) (v := v) hv r, hok, x, hx => by
    rcases List.mem_cons.mp hx with rfl | hx
    · have := hok w List.mem_cons_self
      rcases hv with rfl | rfl
      · exact this
      · exact ⟨fun z => this.1 z.symm, this.2.2.1, this.2.1, this.2.2.2.2, this.2.2.2.1⟩
    · exact TurR.ok r (fun w hw => hok w (List.mem_cons_of_mem _ hw)) x hx
theorem TurR.comp : ∀ {A B C : List (Int × Int)}, TurR A B → TurR B C → TurR A C
  | _, _, _, .nil, .nil => .nil
  | _, _, _, .cons h1 r1, .cons h2 r2 => .cons (by
    rcases h1 with rfl | rfl
    · exact h2
    · rcases h2 with rfl | rfl
      · exact .inr rfl
      · exact .inl rfl) (TurR.comp r1 r2)
theorem TurR.symm : ∀ {A B : List (Int × Int)}, TurR A B → TurR B A
  | _, _, .nil => .nil
  | _, _, .cons h1 r1 => .cons (by
    rcases h1 with rfl | rfl
    · exact .inl rfl
    · exact .inr rfl) (TurR.symm r1)
/-! the least of a rising property -/
def Least (P : Int → Prop) (h : Int) : Prop := 0 ≤ h ∧ P h ∧ ∀ k : Int, 0 ≤ k → k < h → ¬ P k
theorem Least.le {P : Int → Prop} {h k : Int} (l : Least P h) (k0 : 0 ≤ k) (p : P k) : h ≤ k := by
  refine Classical.byContradiction fun z => l.2.2 k k0 (by omega) p
theorem Least.one {P : Int → Prop} {h k : Int} (l : Least P h) (l' : Least P k) : h = k := by
  have := l.le l'.1 l'.2.1
  have := l'.le l.1 l.2.1
  omega
theorem Least.imp {P R : Int → Prop} {h : Int} (l : Least P h) (e : ∀ k, P k ↔ R k) : Least R h := ⟨l.1, (e h).mp l.2.1, fun k k0 hk r => l.2.2 k k0 hk ((e k).mpr r)⟩
def TurC (n : Int) (ws : List (Int × Int)) (h : Int) : Prop := ∃ W, TurR ws W ∧ Colr (.ring n) W h
def TurL (n : Int) (ws : List (Int × Int)) (m : Int) : Prop := ∃ W, TurR ws W ∧ LoadLe (.ring n) W m
theorem TurC.mono {n : Int} {ws : List (Int × Int)} {h k : Int} (c : TurC n ws h) (hk : h ≤ k) : TurC n ws k := by
  obtain ⟨W, a, b⟩ := c; exact ⟨W, a, b.mono hk⟩
theorem TurL.mono {n : Int} {ws : List (Int × Int)} {h k : Int} (c : TurL n ws h) (hk : h ≤ k) : TurL n ws k := by
  obtain ⟨W, a, b⟩ := c; exact ⟨W, a, b.mono hk⟩
theorem TurC.perm {n : Int} {ws ws' : List (Int × Int)} {h : Int} (c : TurC n ws h) (p : ws.Perm ws') : TurC n ws' h := by
  obtain ⟨W, a, b⟩ := c
  obtain ⟨T, a', p'⟩ := a.perm p
  exact ⟨T, a', b.perm p'⟩
theorem TurL.perm {n : Int} {ws ws' : List (Int × Int)} {h : Int} (c : TurL n ws h) (p : ws.Perm ws') : TurL n ws' h := by
  obtain ⟨W, a, b⟩ := c
  obtain ⟨T, a', p'⟩ := a.perm p
  exact ⟨T, a', fun t => by rw [← cnt_perm p']; exact b t⟩
theorem TurC.sub {n : Int} {ws ws' : List (Int × Int)} {h : Int} (c : TurC n ws h) (s : ws'.Sublist ws) : TurC n ws' h := by
  obtain ⟨W, a, b⟩ := c
  obtain ⟨T, a', s'⟩ := a.sub s
  exact ⟨T, a', b.sub s'⟩
theorem TurL.sub {n : Int} {ws ws' : List (Int × Int)} {h : Int} (c : TurL n ws h) (s : ws'.Sublist ws) : TurL n ws' h := by
  obtain ⟨W, a, b⟩ := c
  obtain ⟨T, a', s'⟩ := a.sub s
  exact ⟨T, a', fun t => by have := cnt_sub (N := .ring n) s' t; have := b t; omega⟩
theorem TurC.app {n : Int} {A B : List (Int × Int)} {h k : Int} (a : TurC n A h) (b : TurC n B k) (h0 : 0 ≤ h) (k0 : 0 ≤ k) : TurC n (A ++ B) (h + k) := by
  obtain ⟨S, a1, a2⟩ := a
  obtain ⟨T, b1, b2⟩ := b
  exact ⟨S ++ T, a1.app b1, a2.app b2 h0 k0⟩
theorem TurL.app {n : Int} {A B : List (Int × Int)} {h k : Int} (a : TurL n A h) (b : TurL n B k) : TurL n (A ++ B) (h + k) := by
  obtain ⟨S, a1, a2⟩ := a
  obtain ⟨T, b1, b2⟩ := b
  exact ⟨S ++ T, a1.app b1, fun t => by rw [cnt_app]; have := a2 t; have := b2 t; omega⟩
theorem TurC.load {n : Int} {ws : List (Int × Int)} (ok : (Net.ring n).ok) (hok : ∀ w ∈ ws, isWay (.ring n) w.1 w.2) {h : Int} (h0 : 0 ≤ h) (c : TurC n ws h) : TurL n ws h := by
  obtain ⟨W, a, b⟩ := c
  obtain ⟨k, rfl⟩ : ∃ k : Nat, h = k := ⟨h.toNat, by omega⟩
  exact ⟨W, a, b.load ok (a.ok hok)⟩
/-! ### the least load, told with a paper -/
theorem isL_load {n : Int} {ws : List (Int × Int)} {us : List Int} {m : Int} (lu : us.length = ws.length) (i : IsL n ws us m) : LoadLe (.ring n) (turnAll ws us) m := fun t => by
  rw [cnt_all lu]
  by_cases c : 0 ≤ t ∧ t < n
  · exact i.2 t c.1 c.2
  · obtain ⟨⟨e, he, h1⟩, _⟩ := i
    have h2 := load_nonneg (n := n) (ws := ws) (us := us) (e := e) ws.length
    have : loadTo n ws us t ws.length = 0 := by
      have hz : cnt (.ring n) (turnAll ws us) t = 0 := by
        unfold cnt
        rw [List.length_eq_zero_iff, List.filter_eq_nil_iff]
        intro w _ z
        have z := of_decide_eq_true z
        exact c ⟨z.1, z.2.1⟩
      have := cnt_all (n := n) (ws := ws) (us := us) (t := t) lu
      omega
    omega
theorem load_least_of {n m : Int} {ws : List (Int × Int)} {us : List Int} {P : Pap} (n3 : 3 ≤ n) (hok : ∀ w ∈ ws, isWay (.ring n) w.1 w.2) (lu : us.length = ws.length) (tu : T01 us) (il : IsL n ws us m) (m1 : 1 ≤ m) (pp : PapOk n ws (m - 1) [] P) : Least (TurL n ws) m := by
  refine ⟨by omega, ⟨_, turR_of tu lu, isL_load lu il⟩, fun k k0 hk ⟨W, a, b⟩ => ?_⟩
  obtain ⟨ts, t1, t2, rfl⟩ := a.all
  obtain ⟨e, he, hl⟩ := pap_bars n3 hok t1.get pp (fun i v _ z => by cases z)
  have := b e
  rw [cnt_all t2] at this
  omega
theorem load_none {n : Int} : Least (TurL n []) 0 := ⟨by decide, ⟨[], .nil, fun t => Int.le_refl _⟩, fun k k0 hk => by omega⟩


/-! ### rings: the most ways that two ties part against the least load -/
theorem way_ring {n a b : Int} : isWay (.ring n) a b ↔ a ≠ b ∧ 0 ≤ a ∧ 0 ≤ b ∧ a < n ∧ b < n := Iff.rfl
/-- how many ways e and f part -/
def pq (n : Int) (ws : List (Int × Int)) (e f : Int) : Nat := (ws.filter (partsB n e f)).length
def onI (n : Int) (w : Int × Int) (e : Int) : Int := if OnTie (.ring n) w.1 w.2 e then 1 else 0
theorem pq_cons {n : Int} {w : Int × Int} {ws : List (Int × Int)} {e f : Int} : (pq n (w :: ws) e f : Int) = (if onI n w e = onI n w f then 0 else 1) + pq n ws e f := by
  unfold pq
  have h : partsB n e f w = true ↔ onI n w e ≠ onI n w f := by
    unfold partsB onI
    by_cases a : OnTie (.ring n) w.1 w.2 e <;> by_cases b : OnTie (.ring n) w.1 w.2 f <;> simp [a, b]
  by_cases c : onI n w e = onI n w f
  · rw [List.filter_cons_of_neg (fun z => h.mp z c), if_pos c]; omega
  · rw [List.filter_cons_of_pos (h.mpr c), if_neg c, List.length_cons]; omega
theorem cnt_consI {n : Int} {w : Int × Int} {ws : List (Int × Int)} {e : Int} : (cnt (.ring n) (w :: ws) e : Int) = onI n w e + cnt (.ring n) ws e := by
  unfold cnt onI
  by_cases c : OnTie (.ring n) w.1 w.2 e
  · rw [List.filter_cons_of_pos (by simpa using c), if_pos c, List.length_cons]; omega
  · rw [List.filter_cons_of_neg (by simpa using c), if_neg c]; omega
theorem onI_01 {n : Int} (w : Int × Int) (e : Int) : onI n w e = 0 ∨ onI n w e = 1 := by unfold onI; split <;> omega
theorem onI_ring {n : Int} {w : Int × Int} {e : Int} (hw : isWay (.ring n) w.1 w.2) (e0 : 0 ≤ e) (e1 : e < n) : onI n w e = if w.1 < w.2 then (if w.1 ≤ e ∧ e < w.2 then 1 else 0) else (if w.2 ≤ e ∧ e < w.1 then 0 else 1) := by
  obtain ⟨w1, w2, w3, w4, w5⟩ := hw
  have w4' : w.1 < n := w4
  have w5' : w.2 < n := w5
  unfold onI
  have h : OnTie (.ring n) w.1 w.2 e ↔ (0 ≤ e ∧ e < n ∧ up n w.1 e < up n w.1 w.2) := Iff.rfl
  unfold up at h
  by_cases c : OnTie (.ring n) w.1 w.2 e
  · rw [if_pos c]
    have z := (h.mp c).2.2
    repeat' split at z
    all_goals repeat' split
    all_goals omega
  · rw [if_neg c]
    have z : ¬ (if w.1 ≤ e then e - w.1 else e - w.1 + n) < (if w.1 ≤ w.2 then w.2 - w.1 else w.2 - w.1 + n) := fun y => c (h.mpr ⟨e0, e1, y⟩)
    repeat' split at z
    all_goals repeat' split
    all_goals omega
theorem onI_turn {n : Int} {w : Int × Int} {e : Int} (hw : isWay (.ring n) w.1 w.2) (e0 : 0 ≤ e) (e1 : e < n) : onI n (w.2, w.1) e = 1 - onI n w e := by
  obtain ⟨w1, w2, w3, w4, w5⟩ := hw
  rw [onI_ring (w := (w.2, w.1)) ⟨fun z => w1 z.symm, w3, w2, w5, w4⟩ e0 e1, onI_ring ⟨w1, w2, w3, w4, w5⟩ e0 e1]
  show (if w.2 < w.1 then (if w.2 ≤ e ∧ e < w.1 then (1 : Int) else 0) else (if w.1 ≤ e ∧ e < w.2 then 0 else 1)) = _
  have w1' : w.1 ≠ w.2 := w1
  by_cases c : w.1 < w.2
  · rw [if_neg (by omega), if_pos c]; split <;> rfl
  · rw [if_pos (by omega), if_neg c]; split <;> rfl
/-- a way goes on and off but once about the ring -/
theorem no_alt {n : Int} {w : Int × Int} {e f g h : Int} (hw : isWay (.ring n) w.1 w.2) (e0 : 0 ≤ e) (h1 : h < n) (ef : e < f) (fg : f < g) (gh : g < h) (a : onI n w e = onI n w g) (b : onI n w f = onI n w h) : onI n w e = onI n w f := by
  rw [onI_ring hw (by omega) (by omega), onI_ring hw (by omega) (by omega)] at a b
  rw [onI_ring hw (by omega) (by omega), onI_ring hw (by omega) (by omega)]
  by_cases c : w.1 < w.2
  · simp only [if_pos c] at a b ⊢
    repeat' split at a
    all_goals repeat' split at b
    all_goals repeat' split
    all_goals omega
  · simp only [if_neg c] at a b ⊢
    repeat' split at a
    all_goals repeat' split at b
    all_goals repeat' split
    all_goals omega
/-- pairs of ties side by side, or one within the other: the crossing pairs part no fewer -/
theorem cross_one {n : Int} {w : Int × Int} {e f g h : Int} (hw : isWay (.ring n) w.1 w.2) (e0 : 0 ≤ e) (h1 : h < n) (ef : e ≤ f) (fg : f < g) (gh : g ≤ h) : ((if onI n w e = onI n w f then 0 else 1) + (if onI n w g = onI n w h then 0 else 1) : Int) ≤ (if onI n w e = onI n w g then 0 else 1) + (if onI n w f = onI n w h then 0 else 1) := by
  have key : onI n w e = onI n w g → onI n w f = onI n w h → onI n w e = onI n w f := fun a b => by
    by_cases y1 : e = f
    · rw [y1]
    · by_cases y2 : g = h
      · rw [a, b, y2]
      · exact no_alt hw e0 h1 (by omega) fg (by omega) a b
  rcases onI_01 (n := n) w e with a | a <;> rcases onI_01 (n := n) w f with b | b <;> rcases onI_01 (n := n) w g with c | c <;> rcases onI_01 (n := n) w h with d | d
  all_goals rw [a, b, c, d] at key ⊢
  all_goals first | decide | exact absurd (key rfl rfl) (by decide)
theorem cross_two {n : Int} {w : Int × Int} {e f g h : Int} (hw : isWay (.ring n) w.1 w.2) (e0 : 0 ≤ e) (f1 : f < n) (eg : e < g) (gh : g ≤ h) (hf : h < f) : ((if onI n w e = onI n w f then 0 else 1) + (if onI n w g = onI n w h then 0 else 1) : Int) ≤ (if onI n w e = onI n w h then 0 else 1) + (if onI n w g = onI n w f then 0 else 1) := by
  have key : onI n w e = onI n w h → onI n w g = onI n w f → onI n w e = onI n w g := fun a b => by
    by_cases y2 : g = h
    · rw [a, y2]
    · exact no_alt hw e0 f1 eg (by omega) hf a b
  rcases onI_01 (n := n) w e with a | a <;> rcases onI_01 (n := n) w f with b | b <;> rcases onI_01 (n := n) w g with c | c <;> rcases onI_01 (n := n) w h with d | d
  all_goals rw [a, b, c, d] at key ⊢
  all_goals first | decide | exact absurd (key rfl rfl) (by decide)
theorem cross_all {n e f g h : Int} (e0 : 0 ≤ e) (h1 : h < n) (ef : e ≤ f) (fg : f < g) (gh : g ≤ h) : ∀ {ws : List (Int × Int)}, (∀ w ∈ ws, isWay (.ring n) w.1 w.2) → (pq n ws e f : Int) + pq n ws g h ≤ pq n ws e g + pq n ws f h
  | [], _ => by show ((0 : Nat) : Int) + ((0 : Nat) : Int) ≤ ((0 : Nat) : Int) + ((0 : Nat) : Int); omega
  | w :: r, hok => by
    have ih := cross_all e0 h1 ef fg gh (ws := r) (fun v hv => hok v (List.mem_cons_of_mem _ hv))
    have := cross_one (hok w List.mem_cons_self) e0 h1 ef fg gh
    rw [pq_cons, pq_cons, pq_cons, pq_cons]
    omega
theorem cross_in {n e f g h : Int} (e0 : 0 ≤ e) (f1 : f < n) (eg : e < g) (gh : g ≤ h) (hf : h < f) : ∀ {ws : List (Int × Int)}, (∀ w ∈ ws, isWay (.ring n) w.1 w.2) → (pq n ws e f : Int) + pq n ws g h ≤ pq n ws e h + pq n ws g f
  | [], _ => by show ((0 : Nat) : Int) + ((0 : Nat) : Int) ≤ ((0 : Nat) : Int) + ((0 : Nat) : Int); omega
  | w :: r, hok => by
    have ih := cross_in e0 f1 eg gh hf (ws := r) (fun v hv => hok v (List.mem_cons_of_mem _ hv))
    have := cross_two (hok w List.mem_cons_self) e0 f1 eg gh hf
    rw [pq_cons, pq_cons, pq_cons, pq_cons]
    omega
theorem pq_sym {n : Int} {ws : List (Int × Int)} {e f : Int} : pq n ws e f = pq n ws f e := by
  unfold pq
  congr 1
  apply List.filter_congr
  intro w _
  unfold partsB
  cases decide (OnTie (.ring n) w.1 w.2 e) <;> cases decide (OnTie (.ring n) w.1 w.2 f) <;> rfl
/-- room for the ways left -/
def Room (n : Int) (ws : List (Int × Int)) (c : Int → Int) : Prop := ∀ e f, 0 ≤ e → e < n → 0 ≤ f → f < n → 0 ≤ c e + c f - pq n ws e f ∧ (c e + c f - pq n ws e f) % 2 = 0
/-- two pairs of ties, each full, one on the way, one off it: not so -/
theorem full_main {n : Int} {w : Int × Int} {ws : List (Int × Int)} {c : Int → Int} (hok : ∀ v ∈ w :: ws, isWay (.ring n) v.1 v.2) (R : Room n (w :: ws) c) {e f g h : Int} (e0 : 0 ≤ e) (f1 : f < n) (g0 : 0 ≤ g) (h1 : h < n) (ef : e ≤ f) (gh : g ≤ h)
    (a : onI n w e = onI n w f) (x : onI n w g = onI n w h) (ne : onI n w e ≠ onI n w g) (eg : e < g) (s : c e + c f - pq n (w :: ws) e f = 0) (t : c g + c h - pq n (w :: ws) g h = 0) : False := by
  have hr : ∀ v ∈ ws, isWay (.ring n) v.1 v.2 := fun v hv => hok v (List.mem_cons_of_mem _ hv)
  have hw := hok w List.mem_cons_self
  rw [pq_cons, if_pos a] at s
  rw [pq_cons, if_pos x] at t
  have nfg : f ≠ g := fun z => ne (by rw [a, z])
  have nfh : f ≠ h := fun z => ne (by rw [a, z, x])
  rcases Int.lt_or_gt_of_ne nfg with c1 | c1
  · have z := cross_all e0 h1 ef c1 gh hr
    have r1 := (R e g e0 (by omega) g0 (by omega)).1
    have r2 := (R f h (by omega) f1 (by omega) h1).1
    rw [pq_cons, if_neg ne] at r1
    rw [pq_cons, if_neg (fun z => ne (by rw [a, z, x]))] at r2
    omega
  · rcases Int.lt_or_gt_of_ne nfh with c2 | c2
    · exact ne (no_alt hw e0 h1 eg c1 c2 a x)
    · have z := cross_in e0 f1 eg gh c2 hr
      have r1 := (R e h e0 (by omega) (by omega) h1).1
      have r2 := (R g f g0 (by omega) (by omega) f1).1
      rw [pq_cons, if_neg (fun z => ne (by rw [z, x]))] at r1
      rw [pq_cons, if_neg (fun z => ne (by rw [z, a]))] at r2
      omega
theorem full_ord {n : Int} {w : Int × Int} {ws : List (Int × Int)} {c : Int → Int} (hok : ∀ v ∈ w :: ws, isWay (.ring n) v.1 v.2) (R : Room n (w :: ws) c) {e f g h : Int} (e0 : 0 ≤ e) (f1 : f < n) (g0 : 0 ≤ g) (h1 : h < n) (ef : e ≤ f) (gh : g ≤ h)
    (a : onI n w e = onI n w f) (x : onI n w g = onI n w h) (ne : onI n w e ≠ onI n w g) (s : c e + c f - pq n (w :: ws) e f = 0) (t : c g + c h - pq n (w :: ws) g h = 0) : False := by
  have neg : e ≠ g := fun z => ne (by rw [z])
  rcases Int.lt_or_gt_of_ne neg with c1 | c1
  · exact full_main hok R e0 f1 g0 h1 ef gh a x ne c1 s t
  · exact full_main hok R g0 h1 e0 f1 gh ef x a (fun z => ne z.symm) c1 t s
theorem full_twice {n : Int} {w : Int × Int} {ws : List (Int × Int)} {c : Int → Int} (hok : ∀ v ∈ w :: ws, isWay (.ring n) v.1 v.2) (R : Room n (w :: ws) c) {e f g h : Int} (e0 : 0 ≤ e) (e1 : e < n) (f0 : 0 ≤ f) (f1 : f < n) (g0 : 0 ≤ g) (g1 : g < n) (h0 : 0 ≤ h) (h1 : h < n)
    (a : onI n w e = onI n w f) (x : onI n w g = onI n w h) (ne : onI n w e ≠ onI n w g) (s : c e + c f - pq n (w :: ws) e f = 0) (t : c g + c h - pq n (w :: ws) g h = 0) : False := by
  have s' : c f + c e - pq n (w :: ws) f e = 0 := by rw [pq_sym]; omega
  have t' : c h + c g - pq n (w :: ws) h g = 0 := by rw [pq_sym]; omega
  rcases Int.le_total e f with c1 | c1 <;> rcases Int.le_total g h with c2 | c2
  · exact full_ord hok R e0 f1 g0 h1 c1 c2 a x ne s t
  · exact full_ord hok R e0 f1 h0 g1 c1 c2 a x.symm (by rw [← x]; exact ne) s t'
  · exact full_ord hok R f0 e1 g0 h1 c1 c2 a.symm x (by rw [← a]; exact ne) s' t
  · exact full_ord hok R f0 e1 h0 g1 c1 c2 a.symm x.symm (by rw [← a, ← x]; exact ne) s' t'
theorem room_step {n : Int} {w v : Int × Int} {ws : List (Int × Int)} {c : Int → Int} (R : Room n (w :: ws) c) (hv : ∀ e f, 0 ≤ e → e < n → 0 ≤ f → f < n → (onI n v e = onI n v f ↔ onI n w e = onI n w f))
    (nf : ¬ ∃ e f, (0 ≤ e ∧ e < n ∧ 0 ≤ f ∧ f < n) ∧ onI n v e = 1 ∧ onI n v f = 1 ∧ c e + c f - pq n (w :: ws) e f = 0) : Room n ws (fun t => c t - onI n v t) := by
  intro e f e0 e1 f0 f1
  obtain ⟨r1, r2⟩ := R e f e0 e1 f0 f1
  have z : onI n v e = 1 → onI n v f = 1 → c e + c f - pq n (w :: ws) e f ≠ 0 := fun a b s => nf ⟨e, f, ⟨e0, e1, f0, f1⟩, a, b, s⟩
  have iff := hv e f e0 e1 f0 f1
  rw [pq_cons] at r1 r2 z
  show 0 ≤ c e - onI n v e + (c f - onI n v f) - pq n ws e f ∧ (c e - onI n v e + (c f - onI n v f) - pq n ws e f) % 2 = 0
  rcases onI_01 (n := n) v e with a | a <;> rcases onI_01 (n := n) v f with b | b
  · rw [if_pos (iff.mp (by rw [a, b]))] at r1 r2; omega
  · rw [if_neg (fun y => by have := iff.mpr y; omega)] at r1 r2; omega
  · rw [if_neg (fun y => by have := iff.mpr y; omega)] at r1 r2; omega
  · have z := z a b
    rw [if_pos (iff.mp (by rw [a, b]))] at r1 r2 z
    omega
/-- where no two ties part more than they have room for, the ways may be turned so that they have it -/
theorem sur {n : Int} (n3 : 3 ≤ n) : ∀ (ws : List (Int × Int)) (c : Int → Int), (∀ w ∈ ws, isWay (.ring n) w.1 w.2) → Room n ws c → ∃ W, TurR ws W ∧ ∀ e, 0 ≤ e → e < n → (cnt (.ring n) W e : Int) ≤ c e
  | [], c, _, R => ⟨[], .nil, fun e e0 e1 => by
      have := (R e e e0 e1 e0 e1).1
      have h : (pq n [] e e : Int) = 0 := rfl
      show ((0 : Nat) : Int) ≤ c e
      omega⟩
  | w :: r, c, hok, R => by
    have hw := hok w List.mem_cons_self
    have hr : ∀ v ∈ r, isWay (.ring n) v.1 v.2 := fun v hv => hok v (List.mem_cons_of_mem _ hv)
    by_cases A : ∃ e f, (0 ≤ e ∧ e < n ∧ 0 ≤ f ∧ f < n) ∧ onI n w e = 1 ∧ onI n w f = 1 ∧ c e + c f - pq n (w :: r) e f = 0
    · have R' := room_step (v := (w.2, w.1)) R (fun e f e0 e1 f0 f1 => by rw [onI_turn hw e0 e1, onI_turn hw f0 f1]; omega) (by
        rintro ⟨g, h, ⟨g0, g1, h0, h1⟩, x, y, t⟩
        obtain ⟨e, f, ⟨e0, e1, f0, f1⟩, a, b, s⟩ := A
        rw [onI_turn hw g0 g1] at x
        rw [onI_turn hw h0 h1] at y
        exact full_twice hok R e0 e1 f0 f1 g0 g1 h0 h1 (by omega) (by omega) (by omega) s t)
      obtain ⟨W, t, q⟩ := sur n3 r _ hr R'
      exact ⟨_, .cons (.inr rfl) t, fun e e0 e1 => by have := q e e0 e1; rw [cnt_consI]; omega⟩
    · have R' := room_step (v := w) R (fun e f e0 e1 f0 f1 => Iff.rfl) A
      obtain ⟨W, t, q⟩ := sur n3 r _ hr R'
      exact ⟨_, .cons (.inl rfl) t, fun e e0 e1 => by have := q e e0 e1; rw [cnt_consI]; omega⟩
/-- the ways that two ties part, odd or even -/
theorem pq_par {n e f : Int} : ∀ ws : List (Int × Int), ((pq n ws e f : Int) - cnt (.ring n) ws e - cnt (.ring n) ws f) % 2 = 0
  | [] => by show (((0 : Nat) : Int) - ((0 : Nat) : Int) - ((0 : Nat) : Int)) % 2 = 0; omega
  | w :: r => by
    have ih := pq_par (n := n) (e := e) (f := f) r
    rw [pq_cons, cnt_consI, cnt_consI]
    rcases onI_01 (n := n) w e with a | a <;> rcases onI_01 (n := n) w f with b | b <;> rw [a, b]
    · rw [if_pos rfl]; omega
    · rw [if_neg (by decide)]; omega
    · rw [if_neg (by decide)]; omega
    · rw [if_pos rfl]; omega
theorem cnt_outR {n t : Int} {W : List (Int × Int)} (h : ¬ (0 ≤ t ∧ t < n)) : cnt (.ring n) W t = 0 := by
  unfold cnt
  rw [List.length_eq_zero_iff, List.filter_eq_nil_iff]
  intro w _ z
  have z := of_decide_eq_true z
  exact h ⟨z.1, z.2.1⟩
/-- no turning bears less than half of what two ties part -/
theorem sur_low {n m : Int} {e f : Int} (e0 : 0 ≤ e) (e1 : e < n) (f0 : 0 ≤ f) (f1 : f < n) : ∀ {ws W : List (Int × Int)}, TurR ws W → (∀ w ∈ ws, isWay (.ring n) w.1 w.2) → (pq n ws e f : Int) ≤ cnt (.ring n) W e + cnt (.ring n) W f
  | _, _, .nil, _ => by show ((0 : Nat) : Int) ≤ ((0 : Nat) : Int) + ((0 : Nat) : Int); omega
  | _, _, .cons (w := w) (v := v) hv r, hok => by
    have ih := sur_low (m := m) e0 e1 f0 f1 r (fun v hv => hok v (List.mem_cons_of_mem _ hv))
    have hw := hok w List.mem_cons_self
    rw [pq_cons, cnt_consI, cnt_consI]
    have a := onI_turn hw e0 e1
    have b := onI_turn hw f0 f1
    have c1 := onI_01 (n := n) w e
    have c2 := onI_01 (n := n) w f
    rcases hv with rfl | rfl
    · split <;> omega
    · rw [a, b]; split <;> omega
/-- the least load lies between half of the most that two ties part, and that and one -/
theorem sur_least {n m M : Int} {ws : List (Int × Int)} (n3 : 3 ≤ n) (hok : ∀ w ∈ ws, isWay (.ring n) w.1 w.2) (l : Least (TurL n ws) m) (le : ∀ e f, 0 ≤ e → e < f → f < n → (pq n ws e f : Int) ≤ M) (at_ : M = 0 ∨ ∃ e f, 0 ≤ e ∧ e < f ∧ f < n ∧ (pq n ws e f : Int) = M) : M ≤ 2 * m ∧ m ≤ M / 2 + 1 ∧ ((∀ e f, 0 ≤ e → e < n → 0 ≤ f → f < n → (pq n ws e f) % 2 = 0) → 2 * m = M) := by
  have m0 := l.1
  have low : M ≤ 2 * m := by
    rcases at_ with rfl | ⟨e, f, e0, ef, f1, rfl⟩
    · omega
    · obtain ⟨W, t, q⟩ := l.2.1
      have := sur_low (m := m) e0 (by omega) (by omega) f1 t hok
      have := q e
      have := q f
      omega
  have M0 : 0 ≤ M := by
    rcases at_ with rfl | ⟨e, f, e0, ef, f1, rfl⟩ <;> omega
  have le' : ∀ e f, 0 ≤ e → e < n → 0 ≤ f → f < n → (pq n ws e f : Int) ≤ M := fun e f e0 e1 f0 f1 => by
    rcases Int.lt_trichotomy e f with c | c | c
    · exact le e f e0 c f1
    · subst c
      have : pq n ws e e = 0 := by
        unfold pq
        rw [List.length_eq_zero_iff, List.filter_eq_nil_iff]
        intro w _ z
        unfold partsB at z
        cases h : decide (OnTie (.ring n) w.1 w.2 e) <;> rw [h] at z <;> cases z
      omega
    · rw [pq_sym]; exact le f e f0 c e1
  refine ⟨low, ?_, fun ev => ?_⟩
  · obtain ⟨W, t, q⟩ := sur n3 ws (fun t => M / 2 + ((cnt (.ring n) ws t : Int) % 2)) hok (fun e f e0 e1 f0 f1 => by
      have a := le' e f e0 e1 f0 f1
      have b := pq_par (n := n) (e := e) (f := f) ws
      show 0 ≤ M / 2 + ((cnt (.ring n) ws e : Int) % 2) + (M / 2 + ((cnt (.ring n) ws f : Int) % 2)) - pq n ws e f ∧ (M / 2 + ((cnt (.ring n) ws e : Int) % 2) + (M / 2 + ((cnt (.ring n) ws f : Int) % 2)) - pq n ws e f) % 2 = 0
      omega)
    refine l.le (by omega) ⟨W, t, fun e => ?_⟩
    by_cases c : 0 ≤ e ∧ e < n
    · have := q e c.1 c.2
      omega
    · rw [cnt_outR c]; omega
  · have Mev : M % 2 = 0 := by
      rcases at_ with rfl | ⟨e, f, e0, ef, f1, rfl⟩
      · rfl
      · have := ev e f e0 (by omega) (by omega) f1
        omega
    obtain ⟨W, t, q⟩ := sur n3 ws (fun _ => M / 2) hok (fun e f e0 e1 f0 f1 => by
      have a := le' e f e0 e1 f0 f1
      have b := ev e f e0 e1 f0 f1
      show 0 ≤ M / 2 + M / 2 - (pq n ws e f : Int) ∧ (M / 2 + M / 2 - (pq n ws e f : Int)) % 2 = 0
      omega)
    have := l.le (k := M / 2) (by omega) ⟨W, t, fun e => by
      by_cases c : 0 ≤ e ∧ e < n
      · exact q e c.1 c.2
      · rw [cnt_outR c]; omega⟩
    omega
/-! places with an even number of ends -/
def endB (p : Int) (w : Int × Int) : Bool := decide (p = w.1) || decide (p = w.2)
def ends (ws : List (Int × Int)) (p : Int) : Nat := (ws.filter (endB p)).length
theorem ends_cons {w : Int × Int} {ws : List (Int × Int)} {p : Int} : (ends (w :: ws) p : Int) = (if p = w.1 ∨ p = w.2 then 1 else 0) + ends ws p := by
  unfold ends
  have h : endB p w = true ↔ (p = w.1 ∨ p = w.2) := by unfold endB; simp
  by_cases c : p = w.1 ∨ p = w.2
  · rw [List.filter_cons_of_pos (h.mpr c), if_pos c, List.length_cons]; omega
  · rw [List.filter_cons_of_neg (fun z => c (h.mp z)), if_neg c]; omega
theorem ends_step {n e : Int} (e0 : 0 ≤ e) (e1 : e + 1 < n) : ∀ {ws : List (Int × Int)}, (∀ w ∈ ws, isWay (.ring n) w.1 w.2) → ((cnt (.ring n) ws (e + 1) : Int) - cnt (.ring n) ws e - ends ws (e + 1)) % 2 = 0
  | [], _ => by show (((0 : Nat) : Int) - ((0 : Nat) : Int) - ((0 : Nat) : Int)) % 2 = 0; omega
  | w :: r, hok => by
    have ih := ends_step e0 e1 (ws := r) (fun v hv => hok v (List.mem_cons_of_mem _ hv))
    have hw := hok w List.mem_cons_self
    have ne : w.1 ≠ w.2 := hw.1
    rw [cnt_consI, cnt_consI, ends_cons, onI_ring hw e0 (by omega), onI_ring hw (by omega) e1]
    by_cases c : w.1 < w.2
    · rw [if_pos c, if_pos c]
      split <;> split <;> split <;> omega
    · rw [if_neg c, if_neg c]
      split <;> split <;> split <;> omega
theorem ends_even {n : Int} {ws : List (Int × Int)} (hok : ∀ w ∈ ws, isWay (.ring n) w.1 w.2) (ev : ∀ p, 0 ≤ p → p < n → ends ws p % 2 = 0) : ∀ e f, 0 ≤ e → e < n → 0 ≤ f → f < n → (pq n ws e f) % 2 = 0 := by
  have all : ∀ k : Nat, (k : Int) < n → ((cnt (.ring n) ws (k : Int) : Int) - cnt (.ring n) ws 0) % 2 = 0 := by
    intro k
    induction k with
    | zero => intro _; show ((cnt (.ring n) ws (0 : Int) : Int) - cnt (.ring n) ws 0) % 2 = 0; omega
    | succ k ih =>
      intro h
      have a := ih (by omega)
      have b := ends_step (n := n) (e := (k : Int)) (by omega) (by omega) hok
      have d := ev ((k : Int) + 1) (by omega) (by omega)
      rw [show ((k + 1 : Nat) : Int) = (k : Int) + 1 by omega]
      omega
  intro e f e0 e1 f0 f1
  have a := all e.toNat (by omega)
  have b := all f.toNat (by omega)
  rw [Int.toNat_of_nonneg e0] at a
  rw [Int.toNat_of_nonneg f0] at b
  have c := pq_par (n := n) (e := e) (f := f) ws
  omega
/-! ways told twice -/
inductive Dbl : List (Int × Int) → List (Int × Int) → Prop
  | nil : Dbl [] []
  | cons {w v : Int × Int} {r s : List (Int × Int)} : (v = w ∨ v = (w.2, w.1)) → Dbl r s → Dbl (w :: r) (w :: v :: s)
theorem Dbl.snoc {w v : Int × Int} (h : v = w ∨ v = (w.2, w.1)) : ∀ {r s : List (Int × Int)}, Dbl r s → Dbl (r ++ [w]) (s ++ [w, v])
  | _, _, .nil => .cons h .nil
  | _, _, .cons h' t => .cons h' (Dbl.snoc h t)
theorem Dbl.pq {n e f : Int} (e0 : 0 ≤ e) (e1 : e < n) (f0 : 0 ≤ f) (f1 : f < n) : ∀ {us ws : List (Int × Int)}, Dbl us ws → (∀ w ∈ us, isWay (.ring n) w.1 w.2) → (Pf.pq n ws e f : Int) = 2 * Pf.pq n us e f
  | _, _, .nil, _ => rfl
  | _, _, .cons (w := w) (v := v) h t, hok => by
    have ih := Dbl.pq e0 e1 f0 f1 t (fun v hv => hok v (List.mem_cons_of_mem _ hv))
    have hw := hok w List.mem_cons_self
    rw [pq_cons, pq_cons, pq_cons]
    rcases h with rfl | rfl
    · omega
    · rw [onI_turn hw e0 e1, onI_turn hw f0 f1]
      by_cases c : onI n w e = onI n w f
      · rw [if_pos c, if_pos (by rw [c])]; omega
      · rw [if_neg c, if_neg (by omega)]; omega
theorem Dbl.ok {n : Int} : ∀ {us ws : List (Int × Int)}, Dbl us ws → (∀ w ∈ us, isWay (.ring n) w.1 w.2) → ∀ w ∈ ws, isWay (.ring n) w.1 w.2
  | _, _, .nil, _, w, h => nomatch h
  | _, _, .cons (w := w) (v := v) h t, hok, x, hx => by
    have hw := hok w List.mem_cons_self
    rcases List.mem_cons.mp hx with rfl | hx
    · exact hw
    rcases List.mem_cons.mp hx with rfl | hx
    · rcases h with rfl | rfl
      · exact hw
      · exact ⟨fun z => hw.1 z.symm, hw.2.2.1, hw.2.1, hw.2.2.2.2, hw.2.2.2.1⟩
    · exact Dbl.ok t (fun v hv => hok v (List.mem_cons_of_mem _ hv)) x hx
/-- the law's own look: one end alone lies between -/
def btwB (e f : Int) (w : Int × Int) : Bool := decide (e < w.1 ∧ w.1 ≤ f) != decide (e < w.2 ∧ w.2 ≤ f)
theorem btw_parts {n e f : Int} {w : Int × Int} (hw : isWay (.ring n) w.1 w.2) (e0 : 0 ≤ e) (ef : e < f) (f1 : f < n) : btwB e f w = partsB n e f w := by
  have h : partsB n e f w = true ↔ onI n w e ≠ onI n w f := by
    unfold partsB onI
    by_cases a : OnTie (.ring n) w.1 w.2 e <;> by_cases b : OnTie (.ring n) w.1 w.2 f <;> simp [a, b]
  rw [onI_ring hw e0 (by omega), onI_ring hw (by omega) f1] at h
  have g : btwB e f w = true ↔ ¬ ((e < w.1 ∧ w.1 ≤ f) ↔ (e < w.2 ∧ w.2 ≤ f)) := by
    unfold btwB
    by_cases a : e < w.1 ∧ w.1 ≤ f <;> by_cases b : e < w.2 ∧ w.2 ≤ f <;> simp [a, b]
  have ne : w.1 ≠ w.2 := hw.1
  rw [Bool.eq_iff_iff, g, h]
  by_cases c : w.1 < w.2
  · rw [if_pos c, if_pos c]
    split <;> split <;> omega
  · rw [if_neg c, if_neg c]
    split <;> split <;> omega
theorem btw_count {n e f : Int} {ws : List (Int × Int)} (hok : ∀ w ∈ ws, isWay (.ring n) w.1 w.2) (e0 : 0 ≤ e) (ef : e < f) (f1 : f < n) : (ws.filter (btwB e f)).length = pq n ws e f := by
  unfold pq
  rw [List.filter_congr fun w hw => btw_parts (hok w hw) e0 ef f1]
theorem Dbl.ev : ∀ {us ws : List (Int × Int)}, Dbl us ws → evV ws = us
  | _, _, .nil => rfl
  | _, _, .cons (w := w) _ t => by show w :: evV _ = _; rw [Dbl.ev t]
theorem dpa_ev {K : PySem.W.Frag} {H : Hp} : ∀ {ys : List V} {ds : List PyData}, DpAll K H ys ds → DpAll K H (evV ys) (evV ds)
  | _, _, .nil => .nil
  | _, _, .cons h .nil => .cons h .nil
  | _, _, .cons h (.cons _ t) => .cons h (dpa_ev t)
/-- the numbers that the law picks -/
def pickBtw (e f : Int) (ws : List (Int × Int)) (k : Nat) : Option V := match ws[k]? with | some w => if btwB e f w = true then some (V.int (k : Int)) else none | none => none
theorem btw_pick {n e f : Int} {ws : List (Int × Int)} (hok : ∀ w ∈ ws, isWay (.ring n) w.1 w.2) (e0 : 0 ≤ e) (ef : e < f) (f1 : f < n) : (List.range ws.length).filterMap (pickBtw e f ws) = List.map V.int (partedOf n e f ws) := by
  unfold partedOf
  rw [List.map_map]
  have h : ∀ l : List Nat, l.filterMap (pickBtw e f ws) = (l.filter fun k => match ws[k]? with | some w => partsB n e f w | none => false).map (V.int ∘ fun k : Nat => (k : Int)) := by
    intro l
    induction l with
    | nil => rfl
    | cons k r ih =>
      rw [List.filterMap_cons, List.filter_cons]
      unfold pickBtw at ih ⊢
      cases hk : ws[k]? with
      | none => simp only [hk]; exact ih
      | some w =>
        simp only [hk]
        rw [btw_parts (hok w (List.mem_of_getElem? hk)) e0 ef f1]
        by_cases c : partsB n e f w = true
        · simp only [c, if_true]; rw [ih]; rfl
        · simp only [c]; exact ih
  exact h _


def pr_law_between (K : PySem.W.Frag) (v0 v1 v2 : V) (H : Hp) (Q : VK) (_ : XK) : Prop := ∃ (c : Addr) (w : Int × Int) (e f : Int), v0 = .ref c ∧ SqT K H c [.int w.1, .int w.2] ∧ v1 = .int e ∧ v2 = .int f ∧ Q (.bl (btwB e f w)) H
def t_law_between (K : PySem.W.Frag) : TS :=
  (tRet (tOp rNe (tAndV (tOp xLt (tVar 1) (tOp (rIxT K) (tVar 0) (tC (.int 0)))) (tOp xLe (tOp (rIxT K) (tVar 0) (tC (.int 0))) (tVar 2))) (tAndV (tOp xLt (tVar 1) (tOp (rIxT K) (tVar 0) (tC (.int 1)))) (tOp xLe (tOp (rIxT K) (tVar 0) (tC (.int 1))) (tVar 2)))))
theorem pure_law_between {v0 v1 v2 : V} {H : Hp} {Q : VK} {E : XK} (hh : pr_law_between K v0 v1 v2 H Q E) : t_law_between K ⟨fun _ H' => Q .non H', Q, fun _ _ => False, fun _ _ => False⟩ [some v0, some v1, some v2] H := by
  obtain ⟨c, w, e, f, rfl, hc, rfl, rfl, q⟩ := hh
  have fin : ∀ b : Bool, b = btwB e f w → Q (.bl b) H := fun b hb => by rw [hb]; exact q
  unfold t_law_between
  by_cases c1 : e < w.1 <;> by_cases c2 : w.1 ≤ f <;> by_cases c3 : e < w.2 <;> by_cases c4 : w.2 ≤ f
  all_goals
    wtm_at "s"
    refine fin _ ?_
    unfold btwB
    simp [c1, c2, c3, c4]
abbrev sp_law_between (K : PySem.W.Frag) : Sp := fun vs H Q E => ∃ v0 v1 v2, vs = [v0, v1, v2] ∧ pr_law_between K v0 v1 v2 H Q E
theorem ok_law_between (T : Txt K mg A) : FnOk P w K mg base CX0 1 A.a_law_between A.d_law_between ["_law_way_here", "_law_e", "_law_f"] (sp_law_between K) := by
  refine T.F_law_between.ok sc_law_between (fun vs H Q E h => by obtain ⟨v0, v1, v2, rfl, _⟩ := h; rfl) (fun cdv A0 outer s H vs Q E hr h => ?_)
  obtain ⟨v0, v1, v2, rfl, h⟩ := h
  exact ⟨t_law_between K, (pss_one (ps_ret (pe_cmpR op_ne (pe_and (pe_cmpR op_lt (pv 1) (pe_ix ix_tup (pv 0) pe_int (fun _ _ => rfl)) (nomark _)) (pe_one (pe_cmpR op_le (pe_ix ix_tup (pv 0) pe_int (fun _ _ => rfl)) (pv 2) (nomark _)))) (pe_and (pe_cmpR op_lt (pv 1) (pe_ix ix_tup (pv 0) pe_int (fun _ _ => rfl)) (nomark _)) (pe_one (pe_cmpR op_le (pe_ix ix_tup (pv 0) pe_int (fun _ _ => rfl)) (pv 2) (nomark _)))) (nomark _)))), pure_law_between h⟩


/-- the most that two ties part -/
def MostPq (n : Int) (ws : List (Int × Int)) (M : Int) : Prop := (∀ e f, 0 ≤ e → e < f → f < n → (pq n ws e f : Int) ≤ M) ∧ (M = 0 ∨ ∃ e f, 0 ≤ e ∧ e < f ∧ f < n ∧ (pq n ws e f : Int) = M)
theorem fm_pick {P : (Int × Int) → Bool} : ∀ {ys : List V} {ws : List (Int × Int)}, ys.length = ws.length → ((ys.zip ws).filterMap fun z => if P z.2 = true then some z.1 else none).length = (ws.filter P).length
  | [], [], _ => rfl
  | [], _ :: _, h => by cases h
  | _ :: _, [], h => by cases h
  | y :: ys, w :: ws, h => by
    have ih := fm_pick (P := P) (ys := ys) (ws := ws) (by simpa using h)
    rw [List.zip_cons_cons, List.filterMap_cons]
    by_cases c : P w = true
    · rw [if_pos c, List.filter_cons_of_pos c]
      simp only [List.length_cons, ih]
    · rw [if_neg c, List.filter_cons_of_neg c]
      exact ih
/-- how many ways P takes -/
theorem lc_pick {σ : L2.St} {H1 : Hp} {g : TG} {tt : TT} {te : TE} {vs : List Nat} {QD : Addr → Hp → Prop} {a : Addr} {ys : List V} {ws : List (Int × Int)} (hs : SqL K H1 a ys) (ly : ys.length = ws.length) (hz : ws.length ≤ 50000) (P : Int × Int → Bool)
    (step : ∀ (i : Nat) x w H', ys[i]? = some x → ws[i]? = some w → Same H1 H' → ∀ (R : V → Hp → Prop) (R0 : Hp → Prop), (P w = true → R x H') → (P w = false → R0 H') →
      g x (wipe σ vs) H' fun σ2 H2 => wipe σ2 vs = wipe σ vs ∧ tt σ2 H2 fun b H3 => if b = true then te σ2 H3 R else R0 H3)
    (h : ∀ D zs H', H1 D = none → Same H1 H' → H' D = some (.lst zs) → zs.length = (ws.filter P).length → QD D H') :
    ∃ a', V.ref a = .ref a' ∧ (∃ xs, SqL K H1 a' xs) ∧ ∀ D, H1 D = none → ∃ W : Nat → Nat → Hp → Prop, (∃ m, W 0 m (upd H1 D (.lst []))) ∧ ∀ i m H, W i m H →
      ((Itl K a').stop i H ∧ QD D H) ∨ ((Itl K a').go i H ∧ ∃ Nx : Hp → Prop, (∀ H', Nx H' → ∃ m', m' < m ∧ W (i + 1) m' H') ∧ ∀ x H', (Itl K a').yld i H x H' → g x (wipe σ vs) H' fun σ2 H2 => wipe σ2 vs = wipe σ vs ∧ tt σ2 H2 fun b H3 =>
        if b = true then te σ2 H3 fun y H4 => ∃ acc, H4 D = some (.lst acc) ∧ acc.length < sizeLine ∧ Nx (upd H4 D (.lst (acc ++ [y]))) else Nx H3) := by
  refine lc_pure hs (ys.zip ws) (by rw [List.length_zip]; omega) (by rw [List.length_zip]; omega) (fun z => if P z.2 = true then some z.1 else none) ?_ (fun D H' nD s e => h D _ H' nD s e (fm_pick ly))
  intro i x p H' hx hp sm R R0 g1 g2
  obtain ⟨w, hw⟩ : ∃ w, ws[i]? = some w := ⟨ws[i]'(by have := (List.getElem?_eq_some_iff.mp hx).1; omega), List.getElem?_eq_getElem _⟩
  obtain rfl : p = (x, w) := by
    have e : (ys.zip ws)[i]? = some (x, w) := List.getElem?_zip_eq_some.mpr ⟨hx, hw⟩
    rw [e] at hp
    cases hp; rfl
  refine step i x w H' hx hw sm R R0 (fun c => g1 x ?_) (fun c => g2 ?_)
  · show (if P w = true then some x else none) = some x
    rw [if_pos c]
  · show (if P w = true then some x else none) = none
    rw [if_neg (by rw [c]; decide)]
def pr_law_most (K : PySem.W.Frag) (v0 v1 : V) (H : Hp) (Q : VK) (_ : XK) : Prop := ∃ (n : Int) (ws : List (Int × Int)), v0 = .int n ∧ (Net.ring n).ok ∧ Dp K H v1 (dPairs ws) ∧ ws.length ≤ 10000 ∧ (∀ w ∈ ws, isWay (.ring n) w.1 w.2) ∧ ∀ M H', Same H H' → MostPq n ws M → Q (.int M) H'
def t_law_most (K : PySem.W.Frag) : TS :=
  (tSeq (tAsg (tC (.int 0)) (gName 2))
    (tSeq (tFor (iRng1 (tCons (tVar 0) tNil)) (gName 3)
      (tFor (iRng1 (tCons (tVar 3) tNil)) (gName 4)
      (tAsg (tCB rMax2 (tCons (tVar 2) (tCons (tCB (rLenX K) (tCons (tLc (iList K (tVar 1)) (gName 5) (tB (tCall (sp_law_between K) [] E0 (tCons (tVar 5) (tCons (tVar 4) (tCons (tVar 3) tNil))))) (tVar 5) [5]) tNil)) tNil))) (gName 2))))
    (tRet (tVar 2))))
theorem pure_law_most {v0 v1 : V} {H : Hp} {Q : VK} {E : XK} (hh : pr_law_most K v0 v1 H Q E) : t_law_most K ⟨fun _ H' => Q .non H', Q, fun _ _ => False, fun _ _ => False⟩ [some v0, some v1, none, none, none, none] H := by
  obtain ⟨n, ws, rfl, ok, d, hz, hok, q⟩ := hh
  obtain ⟨b, ys, rfl, hb, dys⟩ := dp_list d
  have ly : ys.length = ws.length := by rw [dpa_len dys, List.length_map]
  have n3 : 3 ≤ n := ok.1
  have n60 : n ≤ 60 := ok.2
  unfold t_law_most
  wtm_at "s"
  refine forR (fun i σ' H' => ∃ M k3 k4 k5, Same H H' ∧ σ' = [some (.int n), some (.ref b), some (.int M), k3, k4, k5] ∧ 0 ≤ M ∧ M ≤ 10000 ∧ (∀ e f, 0 ≤ e → e < f → f < (i : Int) → (pq n ws e f : Int) ≤ M) ∧ (M = 0 ∨ ∃ e f, 0 ≤ e ∧ e < f ∧ f < n ∧ (pq n ws e f : Int) = M)) ⟨0, _, _, _, Same.refl _, rfl, by omega, by omega, fun e f a b c => by omega, .inl rfl⟩ ?_ ?_
  · rintro i σ' H1 hi ⟨M, k3, k4, k5, s1, rfl, M0, M1, le, at_⟩
    wtm_at "s"
    refine forR (fun j σ' H' => ∃ M k4 k5, Same H H' ∧ σ' = [some (.int n), some (.ref b), some (.int M), some (.int (0 + (i : Nat))), k4, k5] ∧ 0 ≤ M ∧ M ≤ 10000 ∧ (∀ e f, 0 ≤ e → e < f → f < (i : Int) → (pq n ws e f : Int) ≤ M) ∧ (∀ e, 0 ≤ e → e < (j : Int) → (pq n ws e (i : Nat) : Int) ≤ M) ∧ (M = 0 ∨ ∃ e f, 0 ≤ e ∧ e < f ∧ f < n ∧ (pq n ws e f : Int) = M)) ⟨M, _, _, s1, rfl, M0, M1, le, fun e a b => by omega, at_⟩ ?_ ?_
    · clear s1 M0 M1 le at_
      rintro j σ' H2 hj ⟨M, k4', k5', s2, rfl, M0, M1, le, le2, at_⟩
      have hin : (i : Int) < n := by omega
      wtm_at "s"
      refine lc_pick (s2.seq hb) ly (by omega) (btwB (j : Nat) (i : Nat)) ?_ (fun D zs H3 nD s3 eD lz => ?_)
      · intro t x w H' hx hw sm R R0 g1 g2
        obtain ⟨w', cc, hw', rfl, hc⟩ := dpairs_get (dpa_same (s2.trans sm) dys) hx
        rw [hw] at hw'
        cases hw'
        wtm_at "s"
        refine ⟨_, _, _, rfl, _, w, _, _, rfl, hc, rfl, rfl, ?_⟩
        rw [Int.zero_add, Int.zero_add]
        wtm_at "s"
        refine k_itb (fun c => ?_) (fun c => ?_)
        · wtm_at "s"
          exact g1 c
        · exact g2 c
      rw [btw_count hok (by omega) (by omega) hin] at lz
      have hle : pq n ws (j : Nat) (i : Nat) ≤ ws.length := List.length_filter_le _ _
      wtm_at "s"
      refine ⟨_, _, _, s2.trans s3, rfl, by split <;> omega, by split <;> omega, fun e f a b c => ?_, fun e a b => ?_, ?_⟩
      · have := le e f a b c
        split <;> omega
      · by_cases c : e = (j : Int)
        · subst c
          split <;> omega
        · have := le2 e a (by omega)
          split <;> omega
      · split
        · exact .inr ⟨(j : Int), (i : Int), by omega, by omega, hin, by omega⟩
        · exact at_
    · clear s1 M0 M1 le at_
      rintro σ' H2 ⟨M, k4', k5', s2, rfl, M0, M1, le, le2, at_⟩
      refine ⟨M, _, _, _, s2, rfl, M0, M1, fun e f a b c => ?_, at_⟩
      by_cases c1 : f = (i : Int)
      · subst c1
        exact le2 e a (by omega)
      · exact le e f a b (by omega)
  · rintro σ' H1 ⟨M, k3, k4, k5, s1, rfl, M0, M1, le, at_⟩
    wtm_at "s"
    exact q M H1 s1 ⟨fun e f a b c => le e f a b (by omega), at_⟩
abbrev sp_law_most (K : PySem.W.Frag) : Sp := fun vs H Q E => ∃ v0 v1, vs = [v0, v1] ∧ pr_law_most K v0 v1 H Q E
theorem ok_law_most (T : Txt K mg A) : FnOk P w K mg base CX0 2 A.a_law_most A.d_law_most ["_law_many", "_law_ways"] (sp_law_most K) := by
  refine T.F_law_most.ok sc_law_most (fun vs H Q E h => by obtain ⟨v0, v1, rfl, _⟩ := h; rfl) (fun cdv A0 outer s H vs Q E hr h => ?_)
  obtain ⟨v0, v1, rfl, h⟩ := h
  exact ⟨t_law_most K, (pss_cons (ps_set (i := 2) sc_law_most.nd rfl (Or.inl rfl) pe_int)
      (pss_cons (ps_for PassesOwn.never rfl (pi_range1 (by rfl) T.z_range (pa_cons (pv 0) pa_nil)) (pg_name (i := 3) sc_law_most.nd rfl (Or.inr rfl))
      (pss_one (ps_for PassesOwn.never rfl (pi_range1 (by rfl) T.z_range (pa_cons (pv 3) pa_nil)) (pg_name (i := 4) sc_law_most.nd rfl (Or.inr rfl))
      (pss_one (ps_set (i := 2) sc_law_most.nd rfl (Or.inl rfl) (pe_callB (q_max2 (by rfl)) (by rfl) T.z_max (by decide +kernel) (pa_cons (pv 2) (pa_cons (pe_callB q_len (by rfl) T.z_len (by decide +kernel) (pa_cons (pe_lc (own := [("_law_way_here", 5)]) (by rfl) sc_law_most.nd (pi_list (pv 1)) (blkOk_by (own := [("_law_way_here", 5)]) (N := ["_law_many", "_law_ways", "_law_found", "_law_f", "_law_e", "_law_way_here"]) (sc := defScope s_law_most) (by decide +kernel)) (fun _ _ _ _ _ => (pg_name (i := 5) sc_law_most.nd rfl (Or.inl rfl))) (fun _ _ _ _ _ => (pts_one (pt_val (pe_call (ok_law_between T) (hr.mono (by decide)) (by rfl) T.g_law_between T.F_law_between.kp T.b_law_between .nil pass0 (pa_cons (pv 5) (pa_cons (pv 4) (pa_cons (pv 3) pa_nil))))))) (fun _ _ _ _ _ => (pv 5))) pa_nil)) pa_nil))))))))
      (pss_one (ps_ret (pv 2))))), pure_law_most h⟩


def pr_law_even (K : PySem.W.Frag) (v0 v1 : V) (H : Hp) (Q : VK) (_ : XK) : Prop := ∃ (n : Int) (ws : List (Int × Int)), v0 = .int n ∧ (Net.ring n).ok ∧ Dp K H v1 (dPairs ws) ∧ ws.length ≤ 10000 ∧ ∀ b H', Same H H' → (b = true → ∀ p, 0 ≤ p → p < n → ends ws p % 2 = 0) → Q (.bl b) H'
def t_law_even (K : PySem.W.Frag) : TS :=
  (tSeq (tFor (iRng1 (tCons (tVar 0) tNil)) (gName 2)
      (tIfS (tTest (tOp rEq (tOp xMod (tCB (rLenX K) (tCons (tLc (iList K (tVar 1)) (gName 3) (tTest (tOp (rIn K false) (tVar 2) (tVar 3))) (tVar 3) [3]) tNil)) (tC (.int 2))) (tC (.int 1)))) (tRet (tC (.bl false))) tNext))
    (tRet (tC (.bl true))))
theorem pure_law_even {v0 v1 : V} {H : Hp} {Q : VK} {E : XK} (hh : pr_law_even K v0 v1 H Q E) : t_law_even K ⟨fun _ H' => Q .non H', Q, fun _ _ => False, fun _ _ => False⟩ [some v0, some v1, none, none] H := by
  obtain ⟨n, ws, rfl, ok, d, hz, q⟩ := hh
  obtain ⟨b, ys, rfl, hb, dys⟩ := dp_list d
  have ly : ys.length = ws.length := by rw [dpa_len dys, List.length_map]
  have n3 : 3 ≤ n := ok.1
  have n60 : n ≤ 60 := ok.2
  unfold t_law_even
  wtm_at "s"
  refine forR (fun i σ' H' => ∃ k2 k3, Same H H' ∧ σ' = [some (.int n), some (.ref b), k2, k3] ∧ (∀ p, 0 ≤ p → p < (i : Int) → ends ws p % 2 = 0)) ⟨_, _, Same.refl _, rfl, fun p a b => by omega⟩ ?_ ?_
  · rintro i σ' H1 hi ⟨k2, k3, s1, rfl, ev⟩
    wtm_at "s"
    refine lc_pick (s1.seq hb) ly (by omega) (endB (i : Nat)) ?_ (fun D zs H2 nD s2 eD lz => ?_)
    · intro t x w H' hx hw sm R R0 g1 g2
      obtain ⟨w', cc, hw', rfl, hc⟩ := dpairs_get (dpa_same (s1.trans sm) dys) hx
      rw [hw] at hw'
      cases hw'
      wtm_at "s"
      refine k_inT2 hc ?_
      rw [Int.zero_add]
      have eb : decide ((i : Int) = w.1 ∨ (i : Int) = w.2) = endB (i : Nat) w := by unfold endB; simp
      rw [eb]
      wtm_at "s"
      refine k_itb (fun c => ?_) (fun c => ?_)
      · wtm_at "s"
        exact g1 c
      · exact g2 c
    have lz' : zs.length = ends ws (i : Nat) := lz
    wtm_at "s"
    have s02 := s1.trans s2
    refine k_it (fun c => ?_) (fun c => ?_)
    · wtm_at "s"
      exact q false H2 s02 (fun z => by cases z)
    · wtm_at "s"
      refine ⟨_, _, s02, rfl, fun p a b => ?_⟩
      by_cases e : p = (i : Int)
      · subst e
        omega
      · exact ev p a (by omega)
  · rintro σ' H1 ⟨k2, k3, s1, rfl, ev⟩
    wtm_at "s"
    exact q true H1 s1 (fun _ p a b => ev p a (by omega))
abbrev sp_law_even (K : PySem.W.Frag) : Sp := fun vs H Q E => ∃ v0 v1, vs = [v0, v1] ∧ pr_law_even K v0 v1 H Q E
theorem ok_law_even (T : Txt K mg A) : FnOk P w K mg base CX0 1 A.a_law_even A.d_law_even ["_law_many", "_law_ways"] (sp_law_even K) := by
  refine T.F_law_even.ok sc_law_even (fun vs H Q E h => by obtain ⟨v0, v1, rfl, _⟩ := h; rfl) (fun cdv A0 outer s H vs Q E hr h => ?_)
  obtain ⟨v0, v1, rfl, h⟩ := h
  exact ⟨t_law_even K, (pss_cons (ps_for PassesOwn.never rfl (pi_range1 (by rfl) T.z_range (pa_cons (pv 0) pa_nil)) (pg_name (i := 2) sc_law_even.nd rfl (Or.inr rfl))
      (pss_one (ps_if (pt_cmpR op_eq (pe_op op_mod (pe_callB q_len (by rfl) T.z_len (by decide +kernel) (pa_cons (pe_lc (own := [("_law_way_here", 3)]) (by rfl) sc_law_even.nd (pi_list (pv 1)) (blkOk_by (own := [("_law_way_here", 3)]) (N := ["_law_many", "_law_ways", "_law_place", "_law_way_here"]) (sc := defScope s_law_even) (by decide +kernel)) (fun _ _ _ _ _ => (pg_name (i := 3) sc_law_even.nd rfl (Or.inl rfl))) (fun _ _ _ _ _ => (pts_one (pt_cmpR op_in_seq (pv 2) (pv 3) (by rfl)))) (fun _ _ _ _ _ => (pv 3))) pa_nil)) pe_int) pe_int (nomark _)) (pss_one (ps_ret pe_bl)) pss_nil)))
      (pss_one (ps_ret pe_bl))), pure_law_even h⟩


def pr_law_twice (K : PySem.W.Frag) (v0 v1 : V) (H : Hp) (Q : VK) (_ : XK) : Prop := ∃ (pu : Addr) (k m : Int), v0 = .ref pu ∧ v1 = .int m ∧ Le H pu k ∧ k < 100000 ∧ 3 ≤ m ∧ m < 1000 ∧ ∀ p ys k' us ws H', p ∉ [pu] → Le H' pu k' → k' ≤ k + 100 → Same (hid [pu] H) (hid [pu] H') → H' p = some (.lst ys) → DpAll K (hid [pu, p] H') ys (ws.map dPair) → Dbl us ws → us.length ≤ 4 → ws.length = 2 * us.length → (∀ w ∈ us, isWay (.ring m) w.1 w.2) → Q (.ref p) H'
def t_law_twice (K : PySem.W.Frag) : TS :=
  (tSeq (tAsg (tLst tNil) (gName 2))
    (tSeq (tFor (iRng1 (tCons (tOp xAdd (tC (.int 1)) (tCall (sp_law_draw K) [] E0 (tCons (tVar 0) (tCons (tC (.int 4)) tNil)))) tNil)) (gName 3)
      (tSeq (tAsg (tCall (sp_law_way K) [] E0 (tCons (tVar 0) (tCons (tVar 1) tNil))) (gTup K 2 (gCons (gName 4) (gCons (gName 5) gNil))))
    (tAsg (tOp rCat (tVar 2) (tLst (tCons (tTup (tCons (tVar 4) (tCons (tVar 5) tNil))) (tCons (tOp (rIxL K) (tLst (tCons (tTup (tCons (tVar 4) (tCons (tVar 5) tNil))) (tCons (tTup (tCons (tVar 5) (tCons (tVar 4) tNil))) tNil))) (tCall (sp_law_draw K) [] E0 (tCons (tVar 0) (tCons (tC (.int 2)) tNil)))) tNil)))) (gName 2))))
    (tRet (tVar 2))))
theorem pure_law_twice {v0 v1 : V} {H : Hp} {Q : VK} {E : XK} (hh : pr_law_twice K v0 v1 H Q E) : t_law_twice K ⟨fun _ H' => Q .non H', Q, fun _ _ => False, fun _ _ => False⟩ [some v0, some v1, none, none, none, none] H := by
  obtain ⟨pu, k, m, rfl, rfl, L, k1, m0, m1, q⟩ := hh
  unfold t_law_twice
  wtm_at "s"
  refine kL (by simp) (fun wl H1 nwl s1 e1 => ?_)
  have L1 := L.same s1
  have nwl' := L.fresh nwl
  wtm_at "s"
  refine ⟨_, _, rfl, pu, k, 4, rfl, rfl, L1, by omega, by decide, by decide, fun r H2 r0 r1 L2 S2 => ?_⟩
  wtm_at "s"
  refine forR (fun i σ' H' => ∃ fl ys us ws k3 k4 k5 kk, σ' = [some (.ref pu), some (.int m), some (.ref fl), k3, k4, k5] ∧ Le H' pu kk ∧ kk ≤ k + 1 + 3 * (i : Nat) ∧ Same (hid [pu] H) (hid [pu] H') ∧ fl ∉ [pu] ∧ H' fl = some (.lst ys) ∧ DpAll K (hid [pu, fl] H') ys (ws.map dPair) ∧ Dbl us ws ∧ us.length = i ∧ ws.length = 2 * i ∧ ∀ w ∈ us, isWay (.ring m) w.1 w.2) ⟨wl, [], [], [], _, _, _, _, rfl, L2, by omega, (hid_mono s1).trans S2, nwl', keeps S2 e1 nwl', .nil, .nil, rfl, rfl, fun w z => nomatch z⟩ ?_ ?_
  · clear S2 L2 e1 s1 L1 nwl nwl' wl
    rintro i σ' H3 hi ⟨fl, ys, us, ws, k3, k4, k5, kk, rfl, L3, hkk, S3, nfl, e3, pd3, db, lu, lw, hok⟩
    have hi4 : i < 4 := by omega
    have ly : ys.length = ws.length := by rw [dpa_len pd3, List.length_map]
    wtm_at "s"
    refine ⟨_, _, rfl, pu, kk, m, rfl, rfl, L3, by omega, by omega, by omega, fun p1 x y H4 np1 np1' L4 S4 e4 hne x0 x1 y0 y1 => ?_⟩
    wtm_at "s"
    refine kT (by simp) (fun p2 H5 np2 s5 e5 => ?_)
    wtm_at "s"
    refine kT (by simp) (fun p3 H6 np3 s6 e6 => ?_)
    wtm_at "s"
    refine kT (by simp) (fun p4 H7 np4 s7 e7 => ?_)
    wtm_at "s"
    refine kL (by simp) (fun l5 H8 nl5 s8 e8 => ?_)
    wtm_at "s"
    have L8 := (((L4.same s5).same s6).same s7).same s8
    refine ⟨_, _, rfl, pu, _, 2, rfl, rfl, L8, by omega, by decide, by decide, fun u H9 u0 u1 L9 S9 => ?_⟩
    have L5 := L4.same s5
    have L6 := L5.same s6
    have L7 := L6.same s7
    have nl5' := L7.fresh nl5
    have e9 := keeps S9 e8 nl5'
    have s48 := s5.trans (s6.trans (s7.trans s8))
    have S49 := (hid_mono s48).trans S9
    have ep1 := keeps S49 e4 np1'
    have ep2 := keeps S9 ((s6.trans (s7.trans s8)) _ _ e5) (L4.fresh np2)
    have ep3 := keeps S9 ((s7.trans s8) _ _ e6) (L5.fresh np3)
    have ep4 := keeps S9 (s8 _ _ e7) (L6.fresh np4)
    have efl := keeps (S4.trans S49) e3 nfl
    obtain ⟨v, pb, hv, epb, npb, hat⟩ : ∃ (v : Int × Int) (pb : Addr), (v = (x, y) ∨ v = (y, x)) ∧ H9 pb = some (.tup [.int v.1, .int v.2]) ∧ pb ∉ [pu] ∧ atI [V.ref p3, .ref p4] u = some (.ref pb) := by
      have uc : u = 0 ∨ u = 1 := by omega
      rcases uc with rfl | rfl
      · exact ⟨(x, y), p3, .inl rfl, ep3, L5.fresh np3, rfl⟩
      · exact ⟨(y, x), p4, .inr rfl, ep4, L6.fresh np4, rfl⟩
    refine k_ixL (sl e9) hat ?_
    wtm_at "s"
    refine kL (by simp) (fun l6 HA nl6 sA eA => ?_)
    wtm_at "s"
    refine k_catN (sA _ _ efl) eA (by simp; omega) (fun l7 HB nl7 sB eB => ?_)
    wtm_at "s"
    have LA := L9.same sA
    have nl7' := LA.fresh nl7
    have s9B := sA.trans sB
    have d7 : ∀ {b : Addr} {o}, HA b = some o → b ≠ l7 := fun hb z => by rw [z, nl7] at hb; cases hb
    have S3B : Same (hid [pu] H3) (hid [pu] HB) := S4.trans (S49.trans (hid_mono s9B))
    refine ⟨l7, ys ++ [.ref p2, .ref pb], us ++ [(x, y)], ws ++ [(x, y), v], _, _, _, _, rfl, L9.same s9B, by omega, S3.trans S3B, nl7', eB, ?_, db.snoc hv, by simp [lu], by simp [lw]; omega, fun w hw => ?_⟩
    · have nn2 : p2 ∉ [pu, l7] := not_in2 (fun z => L4.fresh np2 (by rw [z]; simp)) (d7 (sA _ _ ep2))
      have nnb : pb ∉ [pu, l7] := not_in2 (fun z => npb (by rw [z]; simp)) (d7 (sA _ _ epb))
      rw [List.map_append]
      refine dpa_app ?_ (.cons (dp_of_pair (x := x) (y := y) (stp (by rw [hid_ne nn2]; exact s9B _ _ ep2))) (.cons (dp_of_pair (x := v.1) (y := v.2) (stp (by rw [hid_ne nnb]; exact s9B _ _ epb))) .nil))
      have dA : DpAll K (hid [pu] HA) ys (ws.map dPair) := dpa_same ((S4.trans (S49.trans (hid_mono sA)))) (dpa_same (hid_sub (by simp)) pd3)
      refine dpa_same (fun b o hb => ?_) dA
      obtain ⟨nb, e⟩ := hid_some hb
      rw [hid_ne (not_in2 (fun z => nb (by rw [z]; simp)) (d7 e))]
      exact sB _ _ e
    · rcases List.mem_append.mp hw with hw | hw
      · exact hok w hw
      · rw [List.mem_singleton.mp hw]
        exact way_ring.mpr ⟨hne, x0, y0, x1, y1⟩
  · clear S2 L2 e1 s1 L1 nwl nwl' wl
    rintro σ' H3 ⟨fl, ys, us, ws, k3, k4, k5, kk, rfl, L3, hkk, S3, nfl, e3, p3, db, lu, lw, hok⟩
    wtm_at "s"
    exact q fl ys kk us ws _ nfl L3 (by omega) S3 e3 p3 db (by omega) (by omega) hok
abbrev sp_law_twice (K : PySem.W.Frag) : Sp := fun vs H Q E => ∃ v0 v1, vs = [v0, v1] ∧ pr_law_twice K v0 v1 H Q E
theorem ok_law_twice (T : Txt K mg A) : FnOk P w K mg base CX0 4 A.a_law_twice A.d_law_twice ["_law_left_here", "_law_many"] (sp_law_twice K) := by
  refine T.F_law_twice.ok sc_law_twice (fun vs H Q E h => by obtain ⟨v0, v1, rfl, _⟩ := h; rfl) (fun cdv A0 outer s H vs Q E hr h => ?_)
  obtain ⟨v0, v1, rfl, h⟩ := h
  exact ⟨t_law_twice K, (pss_cons (ps_set (i := 2) sc_law_twice.nd rfl (Or.inl rfl) (pe_lst pa_nil))
      (pss_cons (ps_for PassesOwn.never rfl (pi_range1 (by rfl) T.z_range (pa_cons (pe_op op_add pe_int (pe_call (ok_law_draw T) (hr.mono (by decide)) (by rfl) T.g_law_draw T.F_law_draw.kp T.b_law_draw .nil pass0 (pa_cons (pv 0) (pa_cons pe_int pa_nil)))) pa_nil)) (pg_name (i := 3) sc_law_twice.nd rfl (Or.inl rfl))
      (pss_cons (ps_asg (pe_call (ok_law_way T) (hr.mono (by decide)) (by rfl) T.g_law_way T.F_law_way.kp T.b_law_way .nil pass0 (pa_cons (pv 0) (pa_cons (pv 1) pa_nil))) (pg_tup (by rfl) (pgs_cons (pg_name (i := 4) sc_law_twice.nd rfl (Or.inl rfl)) (pgs_cons (pg_name (i := 5) sc_law_twice.nd rfl (Or.inl rfl)) pgs_nil))))
      (pss_one (ps_set (i := 2) sc_law_twice.nd rfl (Or.inl rfl) (pe_op op_cat (pv 2) (pe_lst (pa_cons (pe_tup (pa_cons (pv 4) (pa_cons (pv 5) pa_nil))) (pa_cons (pe_ix ix_list (pe_lst (pa_cons (pe_tup (pa_cons (pv 4) (pa_cons (pv 5) pa_nil))) (pa_cons (pe_tup (pa_cons (pv 5) (pa_cons (pv 4) pa_nil))) pa_nil))) (pe_call (ok_law_draw T) (hr.mono (by decide)) (by rfl) T.g_law_draw T.F_law_draw.kp T.b_law_draw .nil pass0 (pa_cons (pv 0) (pa_cons pe_int pa_nil))) (fun _ _ => rfl)) pa_nil))))))))
      (pss_one (ps_ret (pv 2))))), pure_law_twice h⟩


def pr_law_round (K : PySem.W.Frag) (v0 v1 : V) (H : Hp) (Q : VK) (_ : XK) : Prop := ∃ (pu : Addr) (k m : Int), v0 = .ref pu ∧ v1 = .int m ∧ Le H pu k ∧ k < 100000 ∧ 3 ≤ m ∧ m < 1000 ∧ ∀ (p : Addr) (ys : List V) (k' : Int) (ws : List (Int × Int)) (H' : Hp), p ∉ [pu] → Le H' pu k' → k' ≤ k + 100 → Same (hid [pu] H) (hid [pu] H') → H' p = some (.lst ys) → DpAll K (hid [pu, p] H') ys (ws.map dPair) → ws.length ≤ 8 → (∀ w ∈ ws, isWay (.ring m) w.1 w.2) → Q (.ref p) H'
def t_law_round (K : PySem.W.Frag) : TS :=
  (tSeq (tAsg (tCall (sp_law_draw K) [] E0 (tCons (tVar 0) (tCons (tVar 1) tNil))) (gName 2))
    (tSeq (tAsg (tVar 2) (gName 3))
    (tSeq (tAsg (tLst tNil) (gName 4))
    (tSeq (tFor (iRng1 (tCons (tOp xAdd (tC (.int 1)) (tCall (sp_law_draw K) [] E0 (tCons (tVar 0) (tCons (tC (.int 7)) tNil)))) tNil)) (gName 5)
      (tSeq (tAsg (tOp xMod (tOp xAdd (tOp xAdd (tVar 3) (tC (.int 1))) (tCall (sp_law_draw K) [] E0 (tCons (tVar 0) (tCons (tOp xSub (tVar 1) (tC (.int 1))) tNil)))) (tVar 1)) (gName 6))
    (tSeq (tDrop (tBM K "list" rAppend (tVar 4) (tCons (tTup (tCons (tVar 3) (tCons (tVar 6) tNil))) tNil)))
    (tAsg (tVar 6) (gName 3)))))
    (tSeq (tIfS (tTest (tOp rNe (tVar 3) (tVar 2))) (tDrop (tBM K "list" rAppend (tVar 4) (tCons (tTup (tCons (tVar 3) (tCons (tVar 2) tNil))) tNil))) tNext)
    (tRet (tVar 4)))))))
theorem pure_law_round {v0 v1 : V} {H : Hp} {Q : VK} {E : XK} (hh : pr_law_round K v0 v1 H Q E) : t_law_round K ⟨fun _ H' => Q .non H', Q, fun _ _ => False, fun _ _ => False⟩ [some v0, some v1, none, none, none, none, none] H := by
  obtain ⟨pu, k, m, rfl, rfl, L, k1, m0, m1, q⟩ := hh
  unfold t_law_round
  wtm_at "s"
  refine ⟨_, _, rfl, pu, k, m, rfl, rfl, L, by omega, by omega, by omega, fun a H0 a0 a1 L0 S0 => ?_⟩
  wtm_at "s"
  refine kL (by simp) (fun wl H1 nwl s1 e1 => ?_)
  have L1 := L0.same s1
  have nwl' := L0.fresh nwl
  have nwlh : hid [pu] H0 wl = none := by rw [hid_ne nwl']; exact nwl
  wtm_at "s"
  refine ⟨_, _, rfl, pu, _, 7, rfl, rfl, L1, by omega, by decide, by decide, fun r H2 r0 r1 L2 S2 => ?_⟩
  wtm_at "s"
  refine forR (fun i σ' H' => ∃ (h : Int) (ys : List V) (ws : List (Int × Int)) (k5 k6 : Option V) (kk : Int), σ' = [some (.ref pu), some (.int m), some (.int a), some (.int h), some (.ref wl), k5, k6] ∧ 0 ≤ h ∧ h < m ∧ Le H' pu kk ∧ kk ≤ k + 2 + (i : Nat) ∧ Same (hid [pu] H0) (hid [pu] H') ∧ H' wl = some (.lst ys) ∧ DpAll K (hid [pu, wl] H') ys (ws.map dPair) ∧ ws.length = i ∧ ∀ w ∈ ws, isWay (.ring m) w.1 w.2) ⟨a, [], [], _, _, _, rfl, a0, a1, L2, by omega, (hid_mono s1).trans S2, keeps S2 e1 nwl', .nil, rfl, fun w z => nomatch z⟩ ?_ ?_
  · clear S2 L2 e1 s1 L1
    rintro i σ' H3 hi ⟨h, ys, ws, k5, k6, kk, rfl, h0, h1, L3, hkk, S3, e3, p3, lw, hok⟩
    have hi4 : i < 7 := by omega
    have ly : ys.length = ws.length := by rw [dpa_len p3, List.length_map]
    wtm_at "s"
    refine ⟨_, _, rfl, pu, kk, m - 1, rfl, rfl, L3, by omega, by omega, by omega, fun d H4 d0 d1 L4 S4 => ?_⟩
    wtm_at "s"
    generalize hz : (h + 1 + d) % m = z
    have hz1 : 0 ≤ z ∧ z < m ∧ z ≠ h := by
      rw [← hz]
      by_cases c : h + 1 + d < m
      · rw [Int.emod_eq_of_lt (by omega) c]; omega
      · rw [← Int.sub_emod_right, Int.emod_eq_of_lt (by omega) (by omega)]; omega
    have e4 := keeps S4 e3 nwl'
    refine k_tyL (sl e4) ?_
    wtm_at "s"
    refine kT (by simp) (fun p H5 np s5 e5 => ?_)
    wtm_at "s"
    refine k_append (s5 _ _ e4) (by omega) ?_
    wtm_at "s"
    have w2 : p ∉ [pu, wl] := not_in2 (fun z => L4.fresh np (by rw [z]; simp)) (fun z => by rw [z, e4] at np; cases np)
    refine ⟨z, ys ++ [.ref p], ws ++ [(h, z)], _, _, _, rfl, hz1.1, hz1.2.1, (L4.same s5).upd nwl', by omega, same_hid_mut ((S3.trans S4).trans (hid_mono s5)) nwlh, upd_same, ?_, by simp [lw], fun w hw => ?_⟩
    · rw [hid_upd (by simp), List.map_append]
      exact dpa_app (dpa_same (hid_more (S4.trans (hid_mono s5)) (by simp)) p3) (.cons (dp_of_pair (stp (by rw [hid_ne w2]; exact e5))) .nil)
    · rcases List.mem_append.mp hw with hw | hw
      · exact hok w hw
      · rw [List.mem_singleton.mp hw]
        exact way_ring.mpr ⟨fun e => hz1.2.2 e.symm, h0, hz1.1, h1, hz1.2.1⟩
  · clear S2 L2 e1 s1 L1
    rintro σ' H3 ⟨h, ys, ws, k5, k6, kk, rfl, h0, h1, L3, hkk, S3, e3, p3, lw, hok⟩
    have ly : ys.length = ws.length := by rw [dpa_len p3, List.length_map]
    wtm_at "s"
    rcases Classical.em (¬ h = a) with c | c
    · rw [decide_eq_false c]
      wtm_at "s"
      refine k_tyL (sl e3) ?_
      wtm_at "s"
      refine kT (by simp) (fun p H5 np s5 e5 => ?_)
      wtm_at "s"
      refine k_append (s5 _ _ e3) (by omega) ?_
      wtm_at "s"
      have w2 : p ∉ [pu, wl] := not_in2 (fun z => L3.fresh np (by rw [z]; simp)) (fun z => by rw [z, e3] at np; cases np)
      refine q wl (ys ++ [.ref p]) kk (ws ++ [(h, a)]) _ nwl' ((L3.same s5).upd nwl') (by omega) (S0.trans (same_hid_mut (S3.trans (hid_mono s5)) nwlh)) upd_same ?_ (by simp; omega) (fun w hw => ?_)
      · rw [hid_upd (by simp), List.map_append]
        exact dpa_app (dpa_same (hid_mono s5) p3) (.cons (dp_of_pair (stp (by rw [hid_ne w2]; exact e5))) .nil)
      · rcases List.mem_append.mp hw with hw | hw
        · exact hok w hw
        · rw [List.mem_singleton.mp hw]
          exact way_ring.mpr ⟨c, h0, a0, h1, a1⟩
    · rw [decide_eq_true (Classical.not_not.mp c)]
      wtm_at "s"
      exact q wl ys kk ws _ nwl' L3 (by omega) (S0.trans S3) e3 p3 (by omega) hok
abbrev sp_law_round (K : PySem.W.Frag) : Sp := fun vs H Q E => ∃ v0 v1, vs = [v0, v1] ∧ pr_law_round K v0 v1 H Q E
theorem ok_law_round (T : Txt K mg A) : FnOk P w K mg base CX0 3 A.a_law_round A.d_law_round ["_law_left_here", "_law_many"] (sp_law_round K) := by
  refine T.F_law_round.ok sc_law_round (fun vs H Q E h => by obtain ⟨v0, v1, rfl, _⟩ := h; rfl) (fun cdv A0 outer s H vs Q E hr h => ?_)
  obtain ⟨v0, v1, rfl, h⟩ := h
  exact ⟨t_law_round K, (pss_cons (ps_set (i := 2) sc_law_round.nd rfl (Or.inl rfl) (pe_call (ok_law_draw T) (hr.mono (by decide)) (by rfl) T.g_law_draw T.F_law_draw.kp T.b_law_draw .nil pass0 (pa_cons (pv 0) (pa_cons (pv 1) pa_nil))))
      (pss_cons (ps_set (i := 3) sc_law_round.nd rfl (Or.inl rfl) (pv 2))
      (pss_cons (ps_set (i := 4) sc_law_round.nd rfl (Or.inl rfl) (pe_lst pa_nil))
      (pss_cons (ps_for PassesOwn.never rfl (pi_range1 (by rfl) T.z_range (pa_cons (pe_op op_add pe_int (pe_call (ok_law_draw T) (hr.mono (by decide)) (by rfl) T.g_law_draw T.F_law_draw.kp T.b_law_draw .nil pass0 (pa_cons (pv 0) (pa_cons pe_int pa_nil)))) pa_nil)) (pg_name (i := 5) sc_law_round.nd rfl (Or.inl rfl))
      (pss_cons (ps_set (i := 6) sc_law_round.nd rfl (Or.inl rfl) (pe_op op_mod (pe_op op_add (pe_op op_add (pv 3) pe_int) (pe_call (ok_law_draw T) (hr.mono (by decide)) (by rfl) T.g_law_draw T.F_law_draw.kp T.b_law_draw .nil pass0 (pa_cons (pv 0) (pa_cons (pe_op op_sub (pv 1) pe_int) pa_nil)))) (pv 1)))
      (pss_cons (ps_expr (pe_bm PySem.F.plainAttrs_list PySem.F.slot_list_append PySem.F.type_list_append mt_append (pv 4) (pa_cons (pe_tup (pa_cons (pv 3) (pa_cons (pv 6) pa_nil))) pa_nil)))
      (pss_one (ps_set (i := 3) sc_law_round.nd rfl (Or.inl rfl) (pv 6))))))
      (pss_cons (ps_if (pt_cmpR op_ne (pv 3) (pv 2) (nomark _)) (pss_one (ps_expr (pe_bm PySem.F.plainAttrs_list PySem.F.slot_list_append PySem.F.type_list_append mt_append (pv 4) (pa_cons (pe_tup (pa_cons (pv 3) (pa_cons (pv 2) pa_nil))) pa_nil)))) pss_nil)
      (pss_one (ps_ret (pv 4)))))))), pure_law_round h⟩


def WayIn (m : Int) (w : Int × Int) : Prop := w.1 ≠ w.2 ∧ 0 ≤ w.1 ∧ w.1 < m ∧ 0 ≤ w.2 ∧ w.2 < m
/-- a list of drawn ways -/
theorem lc_ways {σ : L2.St} {vs : List Nat} {i j l : Nat} {pu : Addr} {m kk lo : Int} {n : Nat} {H1 : Hp} {QD : Addr → Hp → Prop}
    (hi : ∀ x, ((wipe σ vs).set l (some x))[i]? = some (some (.ref pu))) (hj : ∀ x, ((wipe σ vs).set l (some x))[j]? = some (some (.int m))) (hwp : ∀ x, wipe ((wipe σ vs).set l (some x)) vs = wipe σ vs)
    (L : Le H1 pu kk) (hk : kk + 2 * n < 900000) (m0 : 2 ≤ m) (m1 : m < 2 ^ 100) (hn : n ≤ 10000)
    (h : ∀ D ys ws H', H1 D = none → D ∉ [pu] → Le H' pu (kk + 2 * n) → Same (hid [pu] H1) (hid [pu] H') → H' D = some (.lst ys) → DpAll K (hid [pu, D] H') ys (List.map dPair ws) → ws.length = n → (∀ w ∈ ws, WayIn m w) → QD D H') :
    ∀ D, H1 D = none → ∃ W : Nat → Nat → Hp → Prop, (∃ m, W 0 m (upd H1 D (.lst []))) ∧ ∀ t m' H, W t m' H →
      ((Itr lo n).stop t H ∧ QD D H) ∨ ((Itr lo n).go t H ∧ ∃ Nx : Hp → Prop, (∀ H', Nx H' → ∃ m'', m'' < m' ∧ W (t + 1) m'' H') ∧ ∀ x H', (Itr lo n).yld t H x H' → gName l x (wipe σ vs) H' fun σ2 H2 => wipe σ2 vs = wipe σ vs ∧ tYes σ2 H2 fun b H3 =>
        if b = true then tCall (sp_law_way K) [] E0 (tCons (tVar i) (tCons (tVar j) tNil)) σ2 H3 fun y H4 => ∃ acc, H4 D = some (.lst acc) ∧ acc.length < sizeLine ∧ Nx (upd H4 D (.lst (acc ++ [y]))) else Nx H3) := by
  intro D nD
  have nD' := L.fresh nD
  have fr : hid [pu] H1 D = none := by rw [hid_ne nD']; exact nD
  refine lc_range (fun t H => Le H pu (kk + 2 * t) ∧ Same (hid [pu] H1) (hid [pu] H) ∧ ∃ ys ws, H D = some (.lst ys) ∧ DpAll K (hid [pu, D] H) ys (List.map dPair ws) ∧ ws.length = t ∧ ∀ w ∈ ws, WayIn m w) ⟨by simpa using L.upd nD', same_hid_new nD, [], [], upd_same, .nil, rfl, fun _ z => by cases z⟩ ?_ ?_
  · rintro t H ht ⟨Lt, St, ys, ws, hD, hys, hl, hok⟩
    have ly := dpa_len hys
    rw [List.length_map] at ly
    refine ⟨hwp _, ?_⟩
    refine k_yes (iteT (k_call (k_cons (k_var (hi _) (k_cons (k_var (hj _) (k_nil ?_)))))))
    refine ⟨_, _, rfl, pu, kk + 2 * t, m, rfl, rfl, Lt, by omega, m0, m1, fun p a b H' np np' L' S' hp ne a0 a1 b0 b1 => ?_⟩
    have pd : p ≠ D := fun e => by rw [e, hD] at np; cases np
    refine ⟨ys, keeps S' hD nD', szl (by omega), ?_, ?_, ys ++ [.ref p], ws ++ [(a, b)], upd_same, ?_, by simp [hl], fun w hw => ?_⟩
    · have e : kk + 2 * ((t + 1 : Nat) : Int) = kk + 2 * t + 2 := by omega
      rw [e]; exact L'.upd nD'
    · exact same_hid_mut (St.trans S') fr
    · rw [hid_upd (by simp), List.map_append]
      refine dpa_app (dpa_same (hid_more S' (by simp)) hys) (.cons (dp_of_pair (stp ?_)) .nil)
      rw [hid_ne (not_in2 (fun e => np' (by rw [e]; simp)) pd)]; exact hp
    · rcases List.mem_append.mp hw with hw | hw
      · exact hok w hw
      · have e : w = (a, b) := by simpa using hw
        subst e
        exact ⟨ne, a0, a1, b0, b1⟩
  · rintro H ⟨Lt, St, ys, ws, hD, hys, hl, hok⟩
    exact h D ys ws H nD nD' Lt St hD hys hl hok
/-- the law's outer loop: over [c] + script[:z] -/
theorem law_frameN {BODY : TS} {c z : Int} {N : Nat} {m : Nat} {a : Addr} {ns : List Int} {H : Hp} {Q : VK} {n0 : L2.St → Hp → Prop} {bk ct : L2.St → Hp → Prop} (hz : z = N) (hn : ns.length ≤ 63) (ha : SqL K H a (ns.map V.int)) (q : ∀ H', Q (.bl true) H')
    (body : ∀ (cell : Int) (l : List (Option V)) (H3 H4 : Hp) (nx : L2.St → Hp → Prop), l.length = m → Same H3 H4 →
      BODY ⟨fun σ' H' => Same H3 H' ∧ ∃ l' : List (Option V), l'.length = m + 1 ∧ σ' = some (.ref a) :: l', Q, nx, fun σ' H' => Same H3 H' ∧ ∃ l' : List (Option V), l'.length = m + 1 ∧ σ' = some (.ref a) :: l'⟩ (some (.ref a) :: some (.int cell) :: l) H4) :
    tSeq (tFor (iList K (tOp rCat (tLst (tCons (tC (.int c)) tNil)) (tSl (rSlL K) (tVar 0) tNoPart (tPart (tC (.int z)))))) (gName 1) BODY) (tRet (tC (.bl true))) ⟨n0, Q, bk, ct⟩ (some (.ref a) :: List.replicate (m + 1) none) H := by
  wtm_at "s"
  refine ⟨sz (by simp), fun l1 n1 => ?_⟩
  have s1 := same_new (o := .lst [.int c]) n1
  have e1 := upd_same (H := H) (a := l1) (o := .lst [.int c])
  generalize upd H l1 (.lst [.int c]) = H1 at s1 e1 ⊢
  wtm_at "s"
  refine ⟨a, _, rfl, s1.seq ha, fun l2 n2 => ?_⟩
  rw [hz, cutTo N]
  have s2 := same_new (o := .lst ((ns.take N).map V.int)) n2
  have e2 := upd_same (H := H1) (a := l2) (o := .lst ((ns.take N).map V.int))
  generalize upd H1 l2 (.lst ((ns.take N).map V.int)) = H2 at s2 e2 ⊢
  refine k_cat (s2 _ _ e1) e2 (by simp; omega) (fun l3 n3 => ?_)
  have e3 : upd H2 l3 (.lst ([.int c] ++ (ns.take N).map V.int)) l3 = some (.lst ((c :: ns.take N).map V.int)) := upd_same
  generalize upd H2 l3 (.lst ([.int c] ++ (ns.take N).map V.int)) = H3 at e3 ⊢
  wtm_at "s"
  refine forL (sl e3) (fun i σ' H' => Same H3 H' ∧ ∃ l' : List (Option V), l'.length = m + 1 ∧ σ' = some (.ref a) :: l') ⟨Same.refl _, List.replicate (m + 1) none, by simp, rfl⟩ (fun i σ' H' _ e => e.1.seq (sl e3)) ?_ ?_
  · rintro i x σ' H4 hx ⟨sm, l', hl', rfl⟩
    rw [List.getElem?_map] at hx
    obtain ⟨cell, _, rfl⟩ := Option.map_eq_some_iff.mp hx
    cases l' with
    | nil => simp at hl'
    | cons y l => exact body cell l H3 H4 _ (by simpa using hl') sm
  · rintro σ' H' ⟨sm, l', hl', rfl⟩
    wtm_at "s"
    exact q _


theorem most_dbl {n M M2 : Int} {us ws : List (Int × Int)} (hok : ∀ w ∈ us, isWay (.ring n) w.1 w.2) (db : Dbl us ws) (a : MostPq n ws M) (b : MostPq n us M2) : M = 2 * M2 := by
  have e : ∀ e f, 0 ≤ e → e < f → f < n → (pq n ws e f : Int) = 2 * pq n us e f := fun e f e0 ef f1 => db.pq e0 (by omega) (by omega) f1 hok
  have h1 : 2 * M2 ≤ M := by
    rcases b.2 with rfl | ⟨x, y, x0, xy, y1, z⟩
    · rcases a.2 with rfl | ⟨x, y, x0, xy, y1, z⟩ <;> omega
    · have := a.1 x y x0 xy y1
      rw [e x y x0 xy y1] at this
      omega
  have h2 : M ≤ 2 * M2 := by
    rcases a.2 with rfl | ⟨x, y, x0, xy, y1, z⟩
    · rcases b.2 with rfl | ⟨x, y, x0, xy, y1, z⟩ <;> omega
    · have := b.1 x y x0 xy y1
      rw [e x y x0 xy y1] at z
      omega
  omega
theorem dbl_even {n : Int} {us ws : List (Int × Int)} (hok : ∀ w ∈ us, isWay (.ring n) w.1 w.2) (db : Dbl us ws) : ∀ e f, 0 ≤ e → e < n → 0 ≤ f → f < n → (pq n ws e f) % 2 = 0 := fun e f e0 e1 f0 f1 => by
  have := db.pq e0 e1 f0 f1 hok
  omega

def sp_law (K : PySem.W.Frag) : Sp := fun vs H Q _ => ∃ (a : Addr) (ns : List Int), vs = [.ref a] ∧ SqL K H a (ns.map V.int) ∧ ns.length ≤ 63 ∧ ∀ H', Q (.bl true) H'
def t_law (K : PySem.W.Frag) : TS :=
  (tSeq (tFor (iList K (tOp rCat (tLst (tCons (tC (.int 31)) tNil)) (tSl (rSlL K) (tVar 0) tNoPart (tPart (tC (.int 6)))))) (gName 1)
      (tSeq (tAsg (tCall (sp_law_left K) [] E0 (tCons (tVar 1) tNil)) (gName 2))
    (tSeq (tAsg (tOp xAdd (tC (.int 3)) (tCall (sp_law_draw K) [] E0 (tCons (tVar 2) (tCons (tC (.int 7)) tNil)))) (gName 3))
    (tSeq (tAsg (tTup (tCons (tC (.str (Str.ofString "ring"))) (tCons (tVar 3) tNil))) (gName 4))
    (tSeq (tAsg (tCall (sp_law_draw K) [] E0 (tCons (tVar 2) (tCons (tC (.int 3)) tNil))) (gName 5))
    (tSeq (tIfS (tTest (tOp rEq (tVar 5) (tC (.int 0)))) (tAsg (tLc (iRng1 (tCons (tCall (sp_law_draw K) [] E0 (tCons (tVar 2) (tCons (tC (.int 9)) tNil))) tNil)) (gName 14) tYes (tCall (sp_law_way K) [] E0 (tCons (tVar 2) (tCons (tVar 3) tNil))) [14]) (gName 6)) (tIfS (tTest (tOp rEq (tVar 5) (tC (.int 1)))) (tAsg (tCall (sp_law_twice K) [] E0 (tCons (tVar 2) (tCons (tVar 3) tNil))) (gName 6)) (tAsg (tCall (sp_law_round K) [] E0 (tCons (tVar 2) (tCons (tVar 3) tNil))) (gName 6))))
    (tSeq (tAsg (tCall (sp_law_most K) [] E0 (tCons (tVar 3) (tCons (tVar 6) tNil))) (gName 7))
    (tSeq (tAsg (tCB (rListOf K) (tCons (tVar 6) tNil)) (gName 8))
    (tSeq (tAsg (tCall (sp_least_load K) [] E0 (tCons (tVar 4) (tCons (tVar 8) tNil))) (gTup K 3 (gCons (gName 9) (gCons (gName 10) (gCons (gName 11) gNil)))))
    (tSeq (tIfS (tOr (tTest (tOp (rNeD K) (tVar 8) (tVar 6))) (tOr (tTest (tOp xLt (tOp xMul (tC (.int 2)) (tVar 9)) (tVar 7))) (tTest (tOp xGt (tVar 9) (tOp xAdd (tOp xDiv (tVar 7) (tC (.int 2))) (tC (.int 1))))))) (tRet (tC (.bl false))) tNext)
    (tSeq (tIfS (tAnd (tB (tCall (sp_law_even K) [] E0 (tCons (tVar 3) (tCons (tVar 6) tNil)))) (tTest (tOp rNe (tOp xMul (tC (.int 2)) (tVar 9)) (tVar 7)))) (tRet (tC (.bl false))) tNext)
    (tSeq (tIfS (tAnd (tTest (tOp rEq (tVar 5) (tC (.int 1)))) (tTest (tOp rNe (tVar 9) (tCall (sp_law_most K) [] E0 (tCons (tVar 3) (tCons (tEvL K (tVar 6)) tNil)))))) (tRet (tC (.bl false))) tNext)
    (tSeq (tIfS (tTest (tOp rNe (tCall (sp_load K) [] E0 (tCons (tVar 4) (tCons (tCall (sp_turned K) [] E0 (tCons (tVar 4) (tCons (tVar 8) (tCons (tCB (rListOf K) (tCons (tVar 10) tNil)) tNil)))) tNil))) (tVar 9))) (tRet (tC (.bl false))) tNext)
    (tSeq (tAsg (tOp xAdd (tC (.int 1)) (tCall (sp_law_draw K) [] E0 (tCons (tVar 2) (tCons (tOp xSub (tVar 3) (tC (.int 1))) tNil)))) (gName 12))
    (tSeq (tAsg (tCall (sp_law_draw K) [] E0 (tCons (tVar 2) (tCons (tVar 12) tNil))) (gName 13))
    (tIfS (tTest (tOp (rNeD K) (tCall (sp_parted K) [] E0 (tCons (tVar 4) (tCons (tVar 8) (tCons (tVar 13) (tCons (tVar 12) tNil))))) (tLc (iRng1 (tCons (tCB (rLenX K) (tCons (tVar 6) tNil)) tNil)) (gName 14) (tB (tCall (sp_law_between K) [] E0 (tCons (tOp (rIxL K) (tVar 6) (tVar 14)) (tCons (tVar 13) (tCons (tVar 12) tNil))))) (tVar 14) [14]))) (tRet (tC (.bl false))) tNext))))))))))))))))
    (tRet (tC (.bl true))))
theorem pure_law {v0 : V} {H : Hp} {Q : VK} (h : ∃ (a : Addr) (ns : List Int), v0 = .ref a ∧ SqL K H a (ns.map V.int) ∧ ns.length ≤ 63 ∧ ∀ H', Q (.bl true) H') : t_law K ⟨fun _ H' => Q .non H', Q, fun _ _ => False, fun _ _ => False⟩ [some v0, none, none, none, none, none, none, none, none, none, none, none, none, none, none] H := by
  obtain ⟨a, ns, rfl, ha, hz, q⟩ := h
  unfold t_law
  refine law_frameN (m := 13) (N := 6) rfl hz ha q ?_
  clear ha hz q H ns
  intro cell l H3 H4 nx hl sm
  match l, hl with
  | [k2, k3, k4, k5, k6, k7, k8, k9, k10, k11, k12, k13, k14], _ =>
  wtm_at "s"
  refine ⟨_, rfl, cell, rfl, fun pu H5 npu s5 L5 => ?_⟩
  have npu3 : H3 pu = none := sm.free npu
  have s35 := sm.trans s5
  clear sm s5 npu H4
  wtm_at "s"
  refine ⟨_, _, rfl, pu, 0, 7, rfl, rfl, L5, by omega, by decide, by decide, fun d H6 d0 d1 L6 S6 => ?_⟩
  have s36 := same_of_hid s35 (free1 npu3) S6
  clear S6 s35 L5 H5
  wtm_at "s"
  obtain ⟨many, hm, hm0, hm1⟩ : ∃ many, 3 + d = many ∧ 3 ≤ many ∧ many ≤ 9 := ⟨_, rfl, by omega, by omega⟩
  rw [hm]
  refine kTp L6 (by simp) (fun nt H7 nnt s7 e7 => ?_)
  have s37 := s36.trans s7
  have L7 := L6.same s7
  have nnt' := L6.fresh nnt
  have ok : (Net.ring many).ok := ⟨hm0, by show many ≤ 60; omega⟩
  have dN7 : Dp K (hid [pu] H7) (.ref nt) (Net.ring many).d := .tup (stp e7) (.cons (.str _) (.cons (.int _) .nil))
  clear s36 s7 L6 hm d0 d1 d nnt H6 e7
  wtm_at "s"
  refine ⟨_, _, rfl, pu, _, 3, rfl, rfl, L7, by omega, by decide, by decide, fun kd H8 kd0 kd1 L8 S8 => ?_⟩
  have s38 := same_of_hid s37 (free1 npu3) S8
  have dN8 := dp_same S8 dN7
  clear s37 S8 L7 dN7 H7
  refine k_gname (seqO (fun σ' H' => ∃ wl ys ws kk z14, σ' = [some (.ref a), some (.int cell), some (.ref pu), some (.int many), some (.ref nt), some (.int kd), some (.ref wl), k7, k8, k9, k10, k11, k12, k13, z14] ∧ wl ∉ [pu] ∧ Le H' pu kk ∧ kk ≤ 300 ∧ Same (hid [pu] H8) (hid [pu] H') ∧ H' wl = some (.lst ys) ∧ DpAll K (hid [pu] H') ys (ws.map dPair) ∧ ws.length ≤ 8 ∧ (∀ w ∈ ws, isWay (.ring many) w.1 w.2) ∧ (kd = 1 → ∃ us, Dbl us ws ∧ us.length ≤ 4 ∧ ∀ w ∈ us, isWay (.ring many) w.1 w.2)) ?_ (fun nx1 go1 => ?_))
  rotate_left
  · wtm_at "s"
    refine k_it (fun c => ?_) (fun c => ?_)
    · wtm_at "s"
      refine ⟨_, _, rfl, pu, _, 9, rfl, rfl, L8, by omega, by decide, by decide, fun r H9 r0 r1 L9 S9 => ?_⟩
      wtm_at "s"
      refine lc_ways (fun x => rfl) (fun x => rfl) (fun x => rfl) L9 (by omega) (by omega) (by omega) (by omega) (fun wl ys ws HA nwl nwl' LA SA eA dA lw hw => ?_)
      refine go1 _ _ ⟨wl, ys, ws, _, _, rfl, nwl', LA, by omega, S9.trans SA, eA, dpa_same (hid_sub (by simp)) dA, by omega, fun w hw' => ?_, fun z => by omega⟩
      obtain ⟨a1, a2, a3, a4, a5⟩ := hw w hw'
      exact way_ring.mpr ⟨a1, a2, a4, a3, a5⟩
    · wtm_at "s"
      refine k_it (fun c1 => ?_) (fun c1 => ?_)
      · wtm_at "s"
        refine ⟨_, _, rfl, pu, _, many, rfl, rfl, L8, by omega, by omega, by omega, fun wl ys k' us ws H9 nwl' L9 hk9 S9 e9 d9 db lu lw hw => ?_⟩
        exact go1 _ _ ⟨wl, ys, ws, _, _, rfl, nwl', L9, by omega, S9, e9, dpa_same (hid_sub (by simp)) d9, by omega, db.ok hw, fun _ => ⟨us, db, lu, hw⟩⟩
      · wtm_at "s"
        refine ⟨_, _, rfl, pu, _, many, rfl, rfl, L8, by omega, by omega, by omega, fun wl ys k' ws H9 nwl' L9 hk9 S9 e9 d9 lw hw => ?_⟩
        exact go1 _ _ ⟨wl, ys, ws, _, _, rfl, nwl', L9, by omega, S9, e9, dpa_same (hid_sub (by simp)) d9, lw, hw, fun z => absurd z c1⟩
  rintro σ' H9 ⟨wl, ys, ws, kk, z14, rfl, nwl', L9, hkk, S9, e9, dys, lw, hok, dbl⟩
  have lys : ys.length = ws.length := by rw [dpa_len dys, List.length_map]
  have s39 := same_of_hid s38 (free1 npu3) S9
  have dN := dp_same S9 dN8
  have dW : Dp K (hid [pu] H9) (.ref wl) (dPairs ws) := .lst (sl (by rw [hid_ne nwl']; exact e9)) dys
  clear s38 S9 dN8 L8 H8
  have v9 := hid_same [pu] H9
  wtm_at "s"
  refine ⟨_, _, rfl, many, ws, rfl, ok, dp_same v9 dW, by omega, hok, fun M HA sA mp => ?_⟩
  have vA := v9.trans sA
  wtm_at "s"
  refine k_listN (sl (sA _ _ e9)) (fun hd HB nhd sB eB => ?_)
  have vB := vA.trans sB
  have dHB : Dp K HB (.ref hd) (dPairs ws) := .lst (sl eB) (dpa_same vB dys)
  wtm_at "s"
  refine ⟨_, _, rfl, ll_one (dp_same vB dN) ok dHB (by omega) hok (fun p u x m us HC np nu sC eC eu lu tu isl m0 m1 _ pap none => ?_)⟩
  have lst : Least (TurL many ws) m := by
    by_cases c : ws = []
    · obtain ⟨_, rfl, _⟩ := none c
      rw [c]; exact load_none
    · obtain ⟨m1', P, _, okP, _, _⟩ := pap c
      exact load_least_of hm0 hok lu tu isl m1' okP
  obtain ⟨g1, g2, g3⟩ := sur_least hm0 hok lst mp.1 mp.2
  have vC := vB.trans sC
  have dHC := dp_same sC dHB
  clear pap none
  refine k_gtup (stp eC) rfl (k_gcons (k_gname (k_gcons (k_gname (k_gcons (k_gname (k_gnil ?_)))))))
  refine seqO (fun σ' H' => HC = H' ∧ σ' = [some (.ref a), some (.int cell), some (.ref pu), some (.int many), some (.ref nt), some (.int kd), some (.ref wl), some (.int M), some (.ref hd), some (.int m), some (.ref u), some x, k12, k13, z14]) ?_ (fun nx2 go2 => ?_)
  rotate_left
  · wtm_at "s"
    refine k_neD0 (c := dPairs ws) (n := 2) dHC (dp_same vC dW) (sh_pairs _) (by decide) ?_
    wtm_at "s"
    exact go2 _ _ ⟨rfl, rfl⟩
  rintro _ _ ⟨rfl, rfl⟩
  refine seqO (fun σ' H' => Same HC H' ∧ σ' = [some (.ref a), some (.int cell), some (.ref pu), some (.int many), some (.ref nt), some (.int kd), some (.ref wl), some (.int M), some (.ref hd), some (.int m), some (.ref u), some x, k12, k13, z14]) ?_ (fun nx2 go2 => ?_)
  rotate_left
  · wtm_at "s"
    refine ⟨_, _, rfl, many, ws, rfl, ok, dp_same vC dW, by omega, fun b HD sD hev => ?_⟩
    cases b
    · wtm_at "s"
      exact go2 _ _ ⟨sD, rfl⟩
    · have ev := g3 (ends_even hok (hev rfl))
      wtm_at "s"
      exact go2 _ _ ⟨sD, rfl⟩
  rintro _ HD ⟨sD, rfl⟩
  refine seqO (fun σ' H' => Same HD H' ∧ σ' = [some (.ref a), some (.int cell), some (.ref pu), some (.int many), some (.ref nt), some (.int kd), some (.ref wl), some (.int M), some (.ref hd), some (.int m), some (.ref u), some x, k12, k13, z14]) ?_ (fun nx2 go2 => ?_)
  rotate_left
  · wtm_at "s"
    refine k_it (fun c => ?_) (fun c => ?_)
    · obtain ⟨us', db, lu', hus⟩ := dbl c
      have vD := vC.trans sD
      wtm_at "s"
      refine k_evL (sl ((sA.trans (sB.trans (sC.trans sD))) _ _ e9)) (fun ev HE nev sE eE => ?_)
      have dE := dpa_ev (dpa_same (vD.trans sE) dys)
      rw [← evV_map, db.ev] at dE
      wtm_at "s"
      refine ⟨_, _, rfl, many, us', rfl, ok, .lst (sl eE) dE, by omega, hus, fun M2 HF sF mp2 => ?_⟩
      have e1 := most_dbl hus db mp mp2
      have e2 := g3 (dbl_even hus db)
      wtm_at "s"
      exact go2 _ _ ⟨sE.trans sF, rfl⟩
    · wtm_at "s"
      exact go2 _ _ ⟨Same.refl _, rfl⟩
  rintro _ HE ⟨sE, rfl⟩
  have s9E := sA.trans (sB.trans (sC.trans (sD.trans sE)))
  have vE := vC.trans (sD.trans sE)
  have vE' : Same (hid [pu] H9) (hid [pu] HE) := hid_mono s9E
  have eu' := (sD.trans sE) _ _ eu
  have dHE := dp_same (sD.trans sE) dHC
  have LE := L9.same s9E
  have e9E := s9E _ _ e9
  have ehE := (sC.trans (sD.trans sE)) _ _ eB
  have nhd' : hd ∉ [pu] := (L9.same sA).fresh nhd
  clear dHC dHB eC np nu eB g1 g2 g3 mp dbl lst vC vB vA
  wtm_at "s"
  refine k_listN (sl eu') (fun ul HF nul sF eF => ?_)
  have vF := vE.trans sF
  wtm_at "s"
  refine ⟨_, _, _, rfl, many, ws, us, dp_same vF dN, ok, dp_same sF dHE, by omega, hok, dp_of_ints (sl eF), tu.ok lu, fun tw tys HG ntw sG eG dG => ?_⟩
  have vG := vF.trans sG
  wtm_at "s"
  refine ⟨_, _, rfl, .ring many, _, dp_same vG dN, ok, .lst (sl eG) (dpa_same (hid_same _ _) dG), by rw [turn_len lu]; omega, turn_ok hok, fun k3 HI sI h1 h2 => ?_⟩
  have c3 := isl.one (isL_of hm0 lu h1 h2)
  have sEI := sF.trans (sG.trans sI)
  have LI := LE.same sEI
  have vI : Same (hid [pu] H9) (hid [pu] HI) := vE'.trans (hid_mono sEI)
  have e9I := sEI _ _ e9E
  have ehI := sEI _ _ ehE
  clear h1 h2 eG dG vG vF eF ntw nul sI sG sF LE vE vE' dHE eu' e9E ehE
  wtm_at "s"
  refine ⟨_, _, rfl, pu, _, many - 1, rfl, rfl, LI, by omega, by omega, by omega, fun f0 HJ f00 f01 LJ SJ => ?_⟩
  wtm_at "s"
  refine ⟨_, _, rfl, pu, _, 1 + f0, rfl, rfl, LJ, by omega, by omega, by omega, fun e0 HK e00 e01 LK SK => ?_⟩
  have vK := vI.trans (SJ.trans SK)
  have SIK := SJ.trans SK
  have e9K := keeps SIK e9I nwl'
  have ehK := keeps SIK ehI nhd'
  have dNK := dp_same (vK.trans (hid_same _ _)) dN
  have dysK := dpa_same (vK.trans (hid_same _ _)) dys
  have lenK : ws.length = ws.length := rfl
  wtm_at "s"
  refine ⟨_, _, _, _, rfl, many, ws, e0, 1 + f0, rfl, rfl, dNK, ok, .lst (sl ehK) dysK, by omega, hok, by omega, by omega, by omega, by omega, fun pp HM npp sM eM => ?_⟩
  have e9M := sM _ _ e9K
  wtm_at "s"
  refine lc_growR (by omega) (pickBtw e0 (1 + f0) ws) ?_ (fun D HN nD sN eD => ?_)
  · intro i H' hi sm R R0 g1 g2
    obtain ⟨y, hy⟩ : ∃ y, ys[i]? = some y := ⟨ys[i]'(by omega), List.getElem?_eq_getElem (by omega)⟩
    obtain ⟨w, cc, hw, rfl, hc⟩ := dpairs_get (dpa_same (sM.trans sm) dysK) hy
    wtm_at "s"
    refine k_ixL (sl (sm _ _ e9M)) (by rw [Int.zero_add]; exact atI_nat hy) ?_
    wtm_at "s"
    refine ⟨_, _, _, rfl, _, w, _, _, rfl, hc, rfl, rfl, ?_⟩
    wtm_at "s"
    refine k_itb (fun c => ?_) (fun c => ?_)
    · wtm_at "s"
      refine g1 _ _ ?_ (Same.refl _)
      simp only [pickBtw, hw, c, if_true, Int.zero_add]
    · refine g2 _ ?_ (Same.refl _)
      simp only [pickBtw, hw, c]
      rfl
  wtm_at "s"
  have eP := sN _ _ eM
  rw [Int.toNat_natCast, lys, btw_pick hok (by omega) (by omega) (by omega)] at eD
  refine k_neD0 (n := 1) (dp_of_ints (sl eP)) (dp_of_ints (sl eD)) (sh_ints _) (by decide) ?_
  wtm_at "s"
  have v39 := same_of_hid s39 (free1 npu3) (vK.trans (hid_mono (sM.trans sN)))
  exact ⟨v39, _, rfl, rfl⟩
theorem ok_law (T : Txt K mg A) : FnOk P w K mg base CX0 17 A.a_law A.d_law ["_law_script"] (sp_law K) := by
  refine T.F_law.ok sc_law (fun vs H Q E h => by obtain ⟨a, ns, rfl, _⟩ := h; rfl) (fun cdv A0 outer s H vs Q E hr h => ?_)
  obtain ⟨a, ns, rfl, h⟩ := h
  exact ⟨t_law K, (pss_cons (ps_for PassesOwn.never rfl (pi_list (pe_op op_cat (pe_lst (pa_cons pe_int pa_nil)) (pe_slice sl_list (pv 0) po_none (po_some pe_int)))) (pg_name (i := 1) sc_law.nd rfl (Or.inl rfl))
      (pss_cons (ps_set (i := 2) sc_law.nd rfl (Or.inr rfl) (pe_call (ok_law_left T) (hr.mono (by decide)) (by rfl) T.g_law_left T.F_law_left.kp T.b_law_left .nil pass0 (pa_cons (pv 1) pa_nil)))
      (pss_cons (ps_set (i := 3) sc_law.nd rfl (Or.inr rfl) (pe_op op_add pe_int (pe_call (ok_law_draw T) (hr.mono (by decide)) (by rfl) T.g_law_draw T.F_law_draw.kp T.b_law_draw .nil pass0 (pa_cons (pv 2) (pa_cons pe_int pa_nil)))))
      (pss_cons (ps_set (i := 4) sc_law.nd rfl (Or.inl rfl) (pe_tup (pa_cons pe_str (pa_cons (pv 3) pa_nil))))
      (pss_cons (ps_set (i := 5) sc_law.nd rfl (Or.inl rfl) (pe_call (ok_law_draw T) (hr.mono (by decide)) (by rfl) T.g_law_draw T.F_law_draw.kp T.b_law_draw .nil pass0 (pa_cons (pv 2) (pa_cons pe_int pa_nil))))
      (pss_cons (ps_if (pt_cmpR op_eq (pv 5) pe_int (nomark _)) (pss_one (ps_set (i := 6) sc_law.nd rfl (Or.inr rfl) (pe_lc (own := [("_law_k", 14)]) (by rfl) sc_law.nd (pi_range1 (by rfl) T.z_range (pa_cons (pe_call (ok_law_draw T) (hr.mono (by decide)) (by rfl) T.g_law_draw T.F_law_draw.kp T.b_law_draw .nil pass0 (pa_cons (pv 2) (pa_cons pe_int pa_nil))) pa_nil)) (blkOk_by (own := [("_law_k", 14)]) (N := ["_law_script", "_law_cell", "_law_left_here", "_law_many", "_law_net", "_law_kind", "_law_ways", "_law_most_here", "_law_handed", "_law_least", "_law_turning", "_law_paper", "_law_f", "_law_e", "_law_k"]) (sc := defScope s_law) (by decide +kernel)) (fun _ _ _ _ _ => (pg_name (i := 14) sc_law.nd rfl (Or.inl rfl))) (fun _ _ _ _ _ => pts_nil) (fun _ _ _ _ _ => (pe_call (ok_law_way T) (hr.mono (by decide)) (by rfl) T.g_law_way T.F_law_way.kp T.b_law_way .nil pass0 (pa_cons (pv 2) (pa_cons (pv 3) pa_nil))))))) (pss_one (ps_if (pt_cmpR op_eq (pv 5) pe_int (nomark _)) (pss_one (ps_set (i := 6) sc_law.nd rfl (Or.inr rfl) (pe_call (ok_law_twice T) (hr.mono (by decide)) (by rfl) T.g_law_twice T.F_law_twice.kp T.b_law_twice .nil pass0 (pa_cons (pv 2) (pa_cons (pv 3) pa_nil))))) (pss_one (ps_set (i := 6) sc_law.nd rfl (Or.inr rfl) (pe_call (ok_law_round T) (hr.mono (by decide)) (by rfl) T.g_law_round T.F_law_round.kp T.b_law_round .nil pass0 (pa_cons (pv 2) (pa_cons (pv 3) pa_nil))))))))
      (pss_cons (ps_set (i := 7) sc_law.nd rfl (Or.inl rfl) (pe_call (ok_law_most T) (hr.mono (by decide)) (by rfl) T.g_law_most T.F_law_most.kp T.b_law_most .nil pass0 (pa_cons (pv 3) (pa_cons (pv 6) pa_nil))))
      (pss_cons (ps_set (i := 8) sc_law.nd rfl (Or.inl rfl) (pe_callTy q_listOf (by rfl) T.z_list (by decide +kernel) (pa_cons (pv 6) pa_nil)))
      (pss_cons (ps_asg (pe_call (ok_least_load T) (hr.mono (by decide)) (by rfl) T.g_least_load T.F_least_load.kp T.b_least_load .nil pass0 (pa_cons (pv 4) (pa_cons (pv 8) pa_nil))) (pg_tup (by rfl) (pgs_cons (pg_name (i := 9) sc_law.nd rfl (Or.inl rfl)) (pgs_cons (pg_name (i := 10) sc_law.nd rfl (Or.inl rfl)) (pgs_cons (pg_name (i := 11) sc_law.nd rfl (Or.inl rfl)) pgs_nil)))))
      (pss_cons (ps_if (PW.pt (pw_or (pt_cmpR (op_neD hr.units) (pv 8) (pv 6) (nomark _)) (pw_or (pt_cmpR op_lt (pe_op op_mul pe_int (pv 9)) (pv 7) (nomark _)) (pw_or1 (pt_cmpR op_gt (pv 9) (pe_op op_add (pe_op op_fdiv (pv 7) pe_int) pe_int) (nomark _)))))) (pss_one (ps_ret pe_bl)) pss_nil)
      (pss_cons (ps_if (PW.pt (pw_and (pt_val (pe_call (ok_law_even T) (hr.mono (by decide)) (by rfl) T.g_law_even T.F_law_even.kp T.b_law_even .nil pass0 (pa_cons (pv 3) (pa_cons (pv 6) pa_nil)))) (pw_and1 (pt_cmpR op_ne (pe_op op_mul pe_int (pv 9)) (pv 7) (nomark _))))) (pss_one (ps_ret pe_bl)) pss_nil)
      (pss_cons (ps_if (PW.pt (pw_and (pt_cmpR op_eq (pv 5) pe_int (nomark _)) (pw_and1 (pt_cmpR op_ne (pv 9) (pe_call (ok_law_most T) (hr.mono (by decide)) (by rfl) T.g_law_most T.F_law_most.kp T.b_law_most .nil pass0 (pa_cons (pv 3) (pa_cons (pe_evL (pv 6)) pa_nil))) (nomark _))))) (pss_one (ps_ret pe_bl)) pss_nil)
      (pss_cons (ps_if (pt_cmpR op_ne (pe_call (ok_load T) (hr.mono (by decide)) (by rfl) T.g_load T.F_load.kp T.b_load .nil pass0 (pa_cons (pv 4) (pa_cons (pe_call (ok_turned T) (hr.mono (by decide)) (by rfl) T.g_turned T.F_turned.kp T.b_turned .nil pass0 (pa_cons (pv 4) (pa_cons (pv 8) (pa_cons (pe_callTy q_listOf (by rfl) T.z_list (by decide +kernel) (pa_cons (pv 10) pa_nil)) pa_nil)))) pa_nil))) (pv 9) (nomark _)) (pss_one (ps_ret pe_bl)) pss_nil)
      (pss_cons (ps_set (i := 12) sc_law.nd rfl (Or.inr rfl) (pe_op op_add pe_int (pe_call (ok_law_draw T) (hr.mono (by decide)) (by rfl) T.g_law_draw T.F_law_draw.kp T.b_law_draw .nil pass0 (pa_cons (pv 2) (pa_cons (pe_op op_sub (pv 3) pe_int) pa_nil)))))
      (pss_cons (ps_set (i := 13) sc_law.nd rfl (Or.inr rfl) (pe_call (ok_law_draw T) (hr.mono (by decide)) (by rfl) T.g_law_draw T.F_law_draw.kp T.b_law_draw .nil pass0 (pa_cons (pv 2) (pa_cons (pv 12) pa_nil))))
      (pss_one (ps_if (pt_cmpR (op_neD hr.units) (pe_call (ok_parted T) (hr.mono (by decide)) (by rfl) T.g_parted T.F_parted.kp T.b_parted .nil pass0 (pa_cons (pv 4) (pa_cons (pv 8) (pa_cons (pv 13) (pa_cons (pv 12) pa_nil))))) (pe_lc (own := [("_law_k", 14)]) (by rfl) sc_law.nd (pi_range1 (by rfl) T.z_range (pa_cons (pe_callB q_len (by rfl) T.z_len (by decide +kernel) (pa_cons (pv 6) pa_nil)) pa_nil)) (blkOk_by (own := [("_law_k", 14)]) (N := ["_law_script", "_law_cell", "_law_left_here", "_law_many", "_law_net", "_law_kind", "_law_ways", "_law_most_here", "_law_handed", "_law_least", "_law_turning", "_law_paper", "_law_f", "_law_e", "_law_k"]) (sc := defScope s_law) (by decide +kernel)) (fun _ _ _ _ _ => (pg_name (i := 14) sc_law.nd rfl (Or.inl rfl))) (fun _ _ _ _ _ => (pts_one (pt_val (pe_call (ok_law_between T) (hr.mono (by decide)) (by rfl) T.g_law_between T.F_law_between.kp T.b_law_between .nil pass0 (pa_cons (pe_ix ix_list (pv 6) (pv 14) (fun _ _ => rfl)) (pa_cons (pv 13) (pa_cons (pv 12) pa_nil))))))) (fun _ _ _ _ _ => (pv 14))) (nomark _)) (pss_one (ps_ret pe_bl)) pss_nil)))))))))))))))))
      (pss_one (ps_ret pe_bl))), pure_law ⟨a, ns, rfl, h⟩⟩

theorem all_mk {l : PySem.W.OpenLaw} {w : World} {K : PySem.W.Frag} {h : Heap} {mg : Str → Option Value} {fa : Addr} {f0 f1 f2 f3 f4 f5 f6 f7 f8 f9 f10 f11 f12 f13 f14 f15 f16 f17 f18 f19 f20 f21 f22 f23 f24 f25 f26 f27 f28 f29 f30 f31 f32 f33 f34 : Addr} (X : K.In h) (G : h.Ns mainGlobals mg) (hfa : mg "law" = some (.ref fa))
    {od0 an0 od1 an1 od2 an2 od3 an3 od4 an4 od5 an5 od6 an6 od7 an7 od8 an8 od9 an9 od10 an10 od11 an11 od12 an12 od13 an13 od14 an14 od15 an15 od16 an16 od17 an17 od18 an18 od19 an19 od20 an20 od21 an21 od22 an22 od23 an23 od24 an24 od25 an25 od26 an26 od27 an27 od28 an28 od29 an29 od30 an30 od31 an31 od32 an32 od33 an33 od34 an34 : Option Addr} {sl0 sl1 sl2 sl3 sl4 sl5 sl6 sl7 sl8 sl9 sl10 sl11 sl12 sl13 sl14 sl15 sl16 sl17 sl18 sl19 sl20 sl21 sl22 sl23 sl24 sl25 sl26 sl27 sl28 sl29 sl30 sl31 sl32 sl33 sl34 : Array (Option Value)} {oc0 kV0 dc0 pm0 cd0 ct0 oc1 kV1 dc1 pm1 cd1 ct1 oc2 kV2 dc2 pm2 cd2 ct2 oc3 kV3 dc3 pm3 cd3 ct3 oc4 kV4 dc4 pm4 cd4 ct4 oc5 kV5 dc5 pm5 cd5 ct5 oc6 kV6 dc6 pm6 cd6 ct6 oc7 kV7 dc7 pm7 cd7 ct7 oc8 kV8 dc8 pm8 cd8 ct8 oc9 kV9 dc9 pm9 cd9 ct9 oc10 kV10 dc10 pm10 cd10 ct10 oc11 kV11 dc11 pm11 cd11 ct11 oc12 kV12 dc12 pm12 cd12 ct12 oc13 kV13 dc13 pm13 cd13 ct13 oc14 kV14 dc14 pm14 cd14 ct14 oc15 kV15 dc15 pm15 cd15 ct15 oc16 kV16 dc16 pm16 cd16 ct16 oc17 kV17 dc17 pm17 cd17 ct17 oc18 kV18 dc18 pm18 cd18 ct18 oc19 kV19 dc19 pm19 cd19 ct19 oc20 kV20 dc20 pm20 cd20 ct20 oc21 kV21 dc21 pm21 cd21 ct21 oc22 kV22 dc22 pm22 cd22 ct22 oc23 kV23 dc23 pm23 cd23 ct23 oc24 kV24 dc24 pm24 cd24 ct24 oc25 kV25 dc25 pm25 cd25 ct25 oc26 kV26 dc26 pm26 cd26 ct26 oc27 kV27 dc27 pm27 cd27 ct27 oc28 kV28 dc28 pm28 cd28 ct28 oc29 kV29 dc29 pm29 cd29 ct29 oc30 kV30 dc30 pm30 cd30 ct30 oc31 kV31 dc31 pm31 cd31 ct31 oc32 kV32 dc32 pm32 cd32 ct32 oc33 kV33 dc33 pm33 cd33 ct33 oc34 kV34 dc34 pm34 cd34 ct34 : Value}
    {tk0 tk1 : Tok}
    (a0 : PySem.W.nsIn K mainGlobals "is_tree" = some (some (.ref f0))) (l0 : K.lookup f0 = some ⟨oc0, od0, .func (PySem.W.fnOf "is_tree" "is_tree" (defArgs s_is_tree) (defBody s_is_tree) (defScope s_is_tree) .none kV0 dc0 pm0 an0 cd0 ct0), sl0⟩) (c0 : PySem.W.codeIn K cd0 "is_tree" = true) (k0 : PySem.W.keepIn K (.ref f0) = true)
    (a1 : PySem.W.nsIn K mainGlobals "look_net" = some (some (.ref f1))) (l1 : K.lookup f1 = some ⟨oc1, od1, .func (PySem.W.fnOf "look_net" "look_net" (defArgs s_look_net) (defBody s_look_net) (defScope s_look_net) .none kV1 dc1 pm1 an1 cd1 ct1), sl1⟩) (c1 : PySem.W.codeIn K cd1 "look_net" = true) (k1 : PySem.W.keepIn K (.ref f1) = true)
    (a2 : PySem.W.nsIn K mainGlobals "must_be_kind" = some (some (.ref f2))) (l2 : K.lookup f2 = some ⟨oc2, od2, .func (PySem.W.fnOf "must_be_kind" "must_be_kind" (defArgs s_must_be_kind) (defBody s_must_be_kind) (defScope s_must_be_kind) .none kV2 dc2 pm2 an2 cd2 ct2), sl2⟩) (c2 : PySem.W.codeIn K cd2 "must_be_kind" = true) (k2 : PySem.W.keepIn K (.ref f2) = true)
    (a3 : PySem.W.nsIn K mainGlobals "places_of" = some (some (.ref f3))) (l3 : K.lookup f3 = some ⟨oc3, od3, .func (PySem.W.fnOf "places_of" "places_of" (defArgs s_places_of) (defBody s_places_of) (defScope s_places_of) .none kV3 dc3 pm3 an3 cd3 ct3), sl3⟩) (c3 : PySem.W.codeIn K cd3 "places_of" = true) (k3 : PySem.W.keepIn K (.ref f3) = true)
    (a4 : PySem.W.nsIn K mainGlobals "ties_many" = some (some (.ref f4))) (l4 : K.lookup f4 = some ⟨oc4, od4, .func (PySem.W.fnOf "ties_many" "ties_many" (defArgs s_ties_many) (defBody s_ties_many) (defScope s_ties_many) .none kV4 dc4 pm4 an4 cd4 ct4), sl4⟩) (c4 : PySem.W.codeIn K cd4 "ties_many" = true) (k4 : PySem.W.keepIn K (.ref f4) = true)
    (a5 : PySem.W.nsIn K mainGlobals "is_way" = some (some (.ref f5))) (l5 : K.lookup f5 = some ⟨oc5, od5, .func (PySem.W.fnOf "is_way" "is_way" (defArgs s_is_way) (defBody s_is_way) (defScope s_is_way) .none kV5 dc5 pm5 an5 cd5 ct5), sl5⟩) (c5 : PySem.W.codeIn K cd5 "is_way" = true) (k5 : PySem.W.keepIn K (.ref f5) = true)
    (a6 : PySem.W.nsIn K mainGlobals "ties_on" = some (some (.ref f6))) (l6 : K.lookup f6 = some ⟨oc6, od6, .func (PySem.W.fnOf "ties_on" "ties_on" (defArgs s_ties_on) (defBody s_ties_on) (defScope s_ties_on) .none kV6 dc6 pm6 an6 cd6 ct6), sl6⟩) (c6 : PySem.W.codeIn K cd6 "ties_on" = true) (k6 : PySem.W.keepIn K (.ref f6) = true)
    (a7 : PySem.W.nsIn K mainGlobals "must_be_ways" = some (some (.ref f7))) (l7 : K.lookup f7 = some ⟨oc7, od7, .func (PySem.W.fnOf "must_be_ways" "must_be_ways" (defArgs s_must_be_ways) (defBody s_must_be_ways) (defScope s_must_be_ways) .none kV7 dc7 pm7 an7 cd7 ct7), sl7⟩) (c7 : PySem.W.codeIn K cd7 "must_be_ways" = true) (k7 : PySem.W.keepIn K (.ref f7) = true)
    (a8 : PySem.W.nsIn K mainGlobals "look_ways" = some (some (.ref f8))) (l8 : K.lookup f8 = some ⟨oc8, od8, .func (PySem.W.fnOf "look_ways" "look_ways" (defArgs s_look_ways) (defBody s_look_ways) (defScope s_look_ways) .none kV8 dc8 pm8 an8 cd8 ct8), sl8⟩) (c8 : PySem.W.codeIn K cd8 "look_ways" = true) (k8 : PySem.W.keepIn K (.ref f8) = true)
    (a9 : PySem.W.nsIn K mainGlobals "look_ring" = some (some (.ref f9))) (l9 : K.lookup f9 = some ⟨oc9, od9, .func (PySem.W.fnOf "look_ring" "look_ring" (defArgs s_look_ring) (defBody s_look_ring) (defScope s_look_ring) .none kV9 dc9 pm9 an9 cd9 ct9), sl9⟩) (c9 : PySem.W.codeIn K cd9 "look_ring" = true) (k9 : PySem.W.keepIn K (.ref f9) = true)
    (a10 : PySem.W.nsIn K mainGlobals "counted" = some (some (.ref f10))) (l10 : K.lookup f10 = some ⟨oc10, od10, .func (PySem.W.fnOf "counted" "counted" (defArgs s_counted) (defBody s_counted) (defScope s_counted) .none kV10 dc10 pm10 an10 cd10 ct10), sl10⟩) (c10 : PySem.W.codeIn K cd10 "counted" = true) (k10 : PySem.W.keepIn K (.ref f10) = true)
    (a11 : PySem.W.nsIn K mainGlobals "loads" = some (some (.ref f11))) (l11 : K.lookup f11 = some ⟨oc11, od11, .func (PySem.W.fnOf "loads" "loads" (defArgs s_loads) (defBody s_loads) (defScope s_loads) .none kV11 dc11 pm11 an11 cd11 ct11), sl11⟩) (c11 : PySem.W.codeIn K cd11 "loads" = true) (k11 : PySem.W.keepIn K (.ref f11) = true)
    (a12 : PySem.W.nsIn K mainGlobals "load" = some (some (.ref f12))) (l12 : K.lookup f12 = some ⟨oc12, od12, .func (PySem.W.fnOf "load" "load" (defArgs s_load) (defBody s_load) (defScope s_load) .none kV12 dc12 pm12 an12 cd12 ct12), sl12⟩) (c12 : PySem.W.codeIn K cd12 "load" = true) (k12 : PySem.W.keepIn K (.ref f12) = true)
    (a13 : PySem.W.nsIn K mainGlobals "is_whole" = some (some (.ref f13))) (l13 : K.lookup f13 = some ⟨oc13, od13, .func (PySem.W.fnOf "is_whole" "is_whole" (defArgs s_is_whole) (defBody s_is_whole) (defScope s_is_whole) .none kV13 dc13 pm13 an13 cd13 ct13), sl13⟩) (c13 : PySem.W.codeIn K cd13 "is_whole" = true) (k13 : PySem.W.keepIn K (.ref f13) = true)
    (a14 : PySem.W.nsIn K mainGlobals "look_few" = some (some (.ref f14))) (l14 : K.lookup f14 = some ⟨oc14, od14, .func (PySem.W.fnOf "look_few" "look_few" (defArgs s_look_few) (defBody s_look_few) (defScope s_look_few) .none kV14 dc14 pm14 an14 cd14 ct14), sl14⟩) (c14 : PySem.W.codeIn K cd14 "look_few" = true) (k14 : PySem.W.keepIn K (.ref f14) = true)
    (a15 : PySem.W.nsIn K mainGlobals "lying" = some (some (.ref f15))) (l15 : K.lookup f15 = some ⟨oc15, od15, .func (PySem.W.fnOf "lying" "lying" (defArgs s_lying) (defBody s_lying) (defScope s_lying) .none kV15 dc15 pm15 an15 cd15 ct15), sl15⟩) (c15 : PySem.W.codeIn K cd15 "lying" = true) (k15 : PySem.W.keepIn K (.ref f15) = true)
    (a16 : PySem.W.nsIn K mainGlobals "sum_at" = some (some (.ref f16))) (l16 : K.lookup f16 = some ⟨oc16, od16, .func (PySem.W.fnOf "sum_at" "sum_at" (defArgs s_sum_at) (defBody s_sum_at) (defScope s_sum_at) .none kV16 dc16 pm16 an16 cd16 ct16), sl16⟩) (c16 : PySem.W.codeIn K cd16 "sum_at" = true) (k16 : PySem.W.keepIn K (.ref f16) = true)
    (a17 : PySem.W.nsIn K mainGlobals "settle" = some (some (.ref f17))) (l17 : K.lookup f17 = some ⟨oc17, od17, .func (PySem.W.fnOf "settle" "settle" (defArgs s_settle) (defBody s_settle) (defScope s_settle) .none kV17 dc17 pm17 an17 cd17 ct17), sl17⟩) (c17 : PySem.W.codeIn K cd17 "settle" = true) (k17 : PySem.W.keepIn K (.ref f17) = true)
    (a18 : PySem.W.nsIn K mainGlobals "unlike_ties" = some (some (.ref f18))) (l18 : K.lookup f18 = some ⟨oc18, od18, .func (PySem.W.fnOf "unlike_ties" "unlike_ties" (defArgs s_unlike_ties) (defBody s_unlike_ties) (defScope s_unlike_ties) .none kV18 dc18 pm18 an18 cd18 ct18), sl18⟩) (c18 : PySem.W.codeIn K cd18 "unlike_ties" = true) (k18 : PySem.W.keepIn K (.ref f18) = true)
    (a19 : PySem.W.nsIn K mainGlobals "heavy_pair" = some (some (.ref f19))) (l19 : K.lookup f19 = some ⟨oc19, od19, .func (PySem.W.fnOf "heavy_pair" "heavy_pair" (defArgs s_heavy_pair) (defBody s_heavy_pair) (defScope s_heavy_pair) .none kV19 dc19 pm19 an19 cd19 ct19), sl19⟩) (c19 : PySem.W.codeIn K cd19 "heavy_pair" = true) (k19 : PySem.W.keepIn K (.ref f19) = true)
    (a20 : PySem.W.nsIn K mainGlobals "turned_or_paper" = some (some (.ref f20))) (l20 : K.lookup f20 = some ⟨oc20, od20, .func (PySem.W.fnOf "turned_or_paper" "turned_or_paper" (defArgs s_turned_or_paper) (defBody s_turned_or_paper) (defScope s_turned_or_paper) .none kV20 dc20 pm20 an20 cd20 ct20), sl20⟩) (c20 : PySem.W.codeIn K cd20 "turned_or_paper" = true) (k20 : PySem.W.keepIn K (.ref f20) = true)
    (a21 : PySem.W.nsIn K mainGlobals "least_load" = some (some (.ref f21))) (l21 : K.lookup f21 = some ⟨oc21, od21, .func (PySem.W.fnOf "least_load" "least_load" (defArgs s_least_load) (defBody s_least_load) (defScope s_least_load) .none kV21 dc21 pm21 an21 cd21 ct21), sl21⟩) (c21 : PySem.W.codeIn K cd21 "least_load" = true) (k21 : PySem.W.keepIn K (.ref f21) = true)
    (a22 : PySem.W.nsIn K mainGlobals "is_turning" = some (some (.ref f22))) (l22 : K.lookup f22 = some ⟨oc22, od22, .func (PySem.W.fnOf "is_turning" "is_turning" (defArgs s_is_turning) (defBody s_is_turning) (defScope s_is_turning) .none kV22 dc22 pm22 an22 cd22 ct22), sl22⟩) (c22 : PySem.W.codeIn K cd22 "is_turning" = true) (k22 : PySem.W.keepIn K (.ref f22) = true)
    (a23 : PySem.W.nsIn K mainGlobals "turned" = some (some (.ref f23))) (l23 : K.lookup f23 = some ⟨oc23, od23, .func (PySem.W.fnOf "turned" "turned" (defArgs s_turned) (defBody s_turned) (defScope s_turned) .none kV23 dc23 pm23 an23 cd23 ct23), sl23⟩) (c23 : PySem.W.codeIn K cd23 "turned" = true) (k23 : PySem.W.keepIn K (.ref f23) = true)
    (a24 : PySem.W.nsIn K mainGlobals "parted" = some (some (.ref f24))) (l24 : K.lookup f24 = some ⟨oc24, od24, .func (PySem.W.fnOf "parted" "parted" (defArgs s_parted) (defBody s_parted) (defScope s_parted) .none kV24 dc24 pm24 an24 cd24 ct24), sl24⟩) (c24 : PySem.W.codeIn K cd24 "parted" = true) (k24 : PySem.W.keepIn K (.ref f24) = true)
    (a25 : PySem.W.nsIn K mainGlobals "_law_mix" = some (some (.ref f25))) (l25 : K.lookup f25 = some ⟨oc25, od25, .func (PySem.W.fnOf "_law_mix" "_law_mix" (defArgs s_law_mix) (defBody s_law_mix) (defScope s_law_mix) .none kV25 dc25 pm25 an25 cd25 ct25), sl25⟩) (c25 : PySem.W.codeIn K cd25 "_law_mix" = true) (k25 : PySem.W.keepIn K (.ref f25) = true)
    (a26 : PySem.W.nsIn K mainGlobals "_law_left" = some (some (.ref f26))) (l26 : K.lookup f26 = some ⟨oc26, od26, .func (PySem.W.fnOf "_law_left" "_law_left" (defArgs s_law_left) (defBody s_law_left) (defScope s_law_left) .none kV26 dc26 pm26 an26 cd26 ct26), sl26⟩) (c26 : PySem.W.codeIn K cd26 "_law_left" = true) (k26 : PySem.W.keepIn K (.ref f26) = true)
    (a27 : PySem.W.nsIn K mainGlobals "_law_draw" = some (some (.ref f27))) (l27 : K.lookup f27 = some ⟨oc27, od27, .func (PySem.W.fnOf "_law_draw" "_law_draw" (defArgs s_law_draw) (defBody s_law_draw) (defScope s_law_draw) .none kV27 dc27 pm27 an27 cd27 ct27), sl27⟩) (c27 : PySem.W.codeIn K cd27 "_law_draw" = true) (k27 : PySem.W.keepIn K (.ref f27) = true)
    (a28 : PySem.W.nsIn K mainGlobals "_law_way" = some (some (.ref f28))) (l28 : K.lookup f28 = some ⟨oc28, od28, .func (PySem.W.fnOf "_law_way" "_law_way" (defArgs s_law_way) (defBody s_law_way) (defScope s_law_way) .none kV28 dc28 pm28 an28 cd28 ct28), sl28⟩) (c28 : PySem.W.codeIn K cd28 "_law_way" = true) (k28 : PySem.W.keepIn K (.ref f28) = true)
    (a29 : PySem.W.nsIn K mainGlobals "_law_twice" = some (some (.ref f29))) (l29 : K.lookup f29 = some ⟨oc29, od29, .func (PySem.W.fnOf "_law_twice" "_law_twice" (defArgs s_law_twice) (defBody s_law_twice) (defScope s_law_twice) .none kV29 dc29 pm29 an29 cd29 ct29), sl29⟩) (c29 : PySem.W.codeIn K cd29 "_law_twice" = true) (k29 : PySem.W.keepIn K (.ref f29) = true)
    (a30 : PySem.W.nsIn K mainGlobals "_law_round" = some (some (.ref f30))) (l30 : K.lookup f30 = some ⟨oc30, od30, .func (PySem.W.fnOf "_law_round" "_law_round" (defArgs s_law_round) (defBody s_law_round) (defScope s_law_round) .none kV30 dc30 pm30 an30 cd30 ct30), sl30⟩) (c30 : PySem.W.codeIn K cd30 "_law_round" = true) (k30 : PySem.W.keepIn K (.ref f30) = true)
    (a31 : PySem.W.nsIn K mainGlobals "_law_between" = some (some (.ref f31))) (l31 : K.lookup f31 = some ⟨oc31, od31, .func (PySem.W.fnOf "_law_between" "_law_between" (defArgs s_law_between) (defBody s_law_between) (defScope s_law_between) .none kV31 dc31 pm31 an31 cd31 ct31), sl31⟩) (c31 : PySem.W.codeIn K cd31 "_law_between" = true) (k31 : PySem.W.keepIn K (.ref f31) = true)
    (a32 : PySem.W.nsIn K mainGlobals "_law_most" = some (some (.ref f32))) (l32 : K.lookup f32 = some ⟨oc32, od32, .func (PySem.W.fnOf "_law_most" "_law_most" (defArgs s_law_most) (defBody s_law_most) (defScope s_law_most) .none kV32 dc32 pm32 an32 cd32 ct32), sl32⟩) (c32 : PySem.W.codeIn K cd32 "_law_most" = true) (k32 : PySem.W.keepIn K (.ref f32) = true)
    (a33 : PySem.W.nsIn K mainGlobals "_law_even" = some (some (.ref f33))) (l33 : K.lookup f33 = some ⟨oc33, od33, .func (PySem.W.fnOf "_law_even" "_law_even" (defArgs s_law_even) (defBody s_law_even) (defScope s_law_even) .none kV33 dc33 pm33 an33 cd33 ct33), sl33⟩) (c33 : PySem.W.codeIn K cd33 "_law_even" = true) (k33 : PySem.W.keepIn K (.ref f33) = true)
    (a34 : PySem.W.nsIn K mainGlobals "law" = some (some (.ref f34))) (l34 : K.lookup f34 = some ⟨oc34, od34, .func (PySem.W.fnOf "law" "law" (defArgs s_law) (defBody s_law) (defScope s_law) .none kV34 dc34 pm34 an34 cd34 ct34), sl34⟩) (c34 : PySem.W.codeIn K cd34 "law" = true) (k34 : PySem.W.keepIn K (.ref f34) = true)
    (e0 : PySem.W.nsIn K mainGlobals "MOST_PLACES" = some (some (.int 60 tk0)))
    (e1 : PySem.W.nsIn K mainGlobals "MOST" = some (some (.int 14 tk1)))
    (z0 : PySem.W.nsIn K mainGlobals "bool" = some none)
    (z1 : PySem.W.nsIn K mainGlobals "dict" = some none)
    (z2 : PySem.W.nsIn K mainGlobals "int" = some none)
    (z3 : PySem.W.nsIn K mainGlobals "isinstance" = some none)
    (z4 : PySem.W.nsIn K mainGlobals "len" = some none)
    (z5 : PySem.W.nsIn K mainGlobals "list" = some none)
    (z6 : PySem.W.nsIn K mainGlobals "max" = some none)
    (z7 : PySem.W.nsIn K mainGlobals "min" = some none)
    (z8 : PySem.W.nsIn K mainGlobals "range" = some none)
    (z9 : PySem.W.nsIn K mainGlobals "sorted" = some none)
    (z10 : PySem.W.nsIn K mainGlobals "zip" = some none)
    : ∃ fd : FuncData, (∀ (s : Shared) (v : Value), BindsTo s fd ⟨[v], []⟩ [("_law_script", v)]) ∧ ∀ base : Heap, K.In base → base.Ns mainGlobals mg → FnOk l.prog w K mg base CX0 17 fa fd ["_law_script"] (sp_law K) := by
  have e := hfa.symm.trans (PySem.W.mg_of X G a34)
  cases e
  have F0 := fun_mk (st := s_is_tree) l0 c0 k0
  have b0 := F0.binds (ps := ["parents"]) fun _ _ _ _ _ _ us hl => match us, hl with | [_], _ => rfl
  have F1 := fun_mk (st := s_look_net) l1 c1 k1
  have b1 := F1.binds (ps := ["net"]) fun _ _ _ _ _ _ us hl => match us, hl with | [_], _ => rfl
  have F2 := fun_mk (st := s_must_be_kind) l2 c2 k2
  have b2 := F2.binds (ps := ["net", "kind"]) fun _ _ _ _ _ _ us hl => match us, hl with | [_, _], _ => rfl
  have F3 := fun_mk (st := s_places_of) l3 c3 k3
  have b3 := F3.binds (ps := ["net"]) fun _ _ _ _ _ _ us hl => match us, hl with | [_], _ => rfl
  have F4 := fun_mk (st := s_ties_many) l4 c4 k4
  have b4 := F4.binds (ps := ["net"]) fun _ _ _ _ _ _ us hl => match us, hl with | [_], _ => rfl
  have F5 := fun_mk (st := s_is_way) l5 c5 k5
  have b5 := F5.binds (ps := ["net", "way"]) fun _ _ _ _ _ _ us hl => match us, hl with | [_, _], _ => rfl
  have F6 := fun_mk (st := s_ties_on) l6 c6 k6
  have b6 := F6.binds (ps := ["net", "way"]) fun _ _ _ _ _ _ us hl => match us, hl with | [_, _], _ => rfl
  have F7 := fun_mk (st := s_must_be_ways) l7 c7 k7
  have b7 := F7.binds (ps := ["net", "ways"]) fun _ _ _ _ _ _ us hl => match us, hl with | [_, _], _ => rfl
  have F8 := fun_mk (st := s_look_ways) l8 c8 k8
  have b8 := F8.binds (ps := ["net", "ways"]) fun _ _ _ _ _ _ us hl => match us, hl with | [_, _], _ => rfl
  have F9 := fun_mk (st := s_look_ring) l9 c9 k9
  have b9 := F9.binds (ps := ["net"]) fun _ _ _ _ _ _ us hl => match us, hl with | [_], _ => rfl
  have F10 := fun_mk (st := s_counted) l10 c10 k10
  have b10 := F10.binds (ps := ["net", "ways"]) fun _ _ _ _ _ _ us hl => match us, hl with | [_, _], _ => rfl
  have F11 := fun_mk (st := s_loads) l11 c11 k11
  have b11 := F11.binds (ps := ["net", "ways"]) fun _ _ _ _ _ _ us hl => match us, hl with | [_, _], _ => rfl
  have F12 := fun_mk (st := s_load) l12 c12 k12
  have b12 := F12.binds (ps := ["net", "ways"]) fun _ _ _ _ _ _ us hl => match us, hl with | [_, _], _ => rfl
  have F13 := fun_mk (st := s_is_whole) l13 c13 k13
  have b13 := F13.binds (ps := ["thing"]) fun _ _ _ _ _ _ us hl => match us, hl with | [_], _ => rfl
  have F14 := fun_mk (st := s_look_few) l14 c14 k14
  have b14 := F14.binds (ps := ["net", "ways", "most"]) fun _ _ _ _ _ _ us hl => match us, hl with | [_, _, _], _ => rfl
  have F15 := fun_mk (st := s_lying) l15 c15 k15
  have b15 := F15.binds (ps := ["net", "ways"]) fun _ _ _ _ _ _ us hl => match us, hl with | [_, _], _ => rfl
  have F16 := fun_mk (st := s_sum_at) l16 c16 k16
  have b16 := F16.binds (ps := ["both", "settled", "e", "f"]) fun _ _ _ _ _ _ us hl => match us, hl with | [_, _, _, _], _ => rfl
  have F17 := fun_mk (st := s_settle) l17 c17 k17
  have b17 := F17.binds (ps := ["settled", "k", "turn"]) fun _ _ _ _ _ _ us hl => match us, hl with | [_, _, _], _ => rfl
  have F18 := fun_mk (st := s_unlike_ties) l18 c18 k18
  have b18 := F18.binds (ps := ["net", "both"]) fun _ _ _ _ _ _ us hl => match us, hl with | [_, _], _ => rfl
  have F19 := fun_mk (st := s_heavy_pair) l19 c19 k19
  have b19 := F19.binds (ps := ["both", "settled", "ties", "m"]) fun _ _ _ _ _ _ us hl => match us, hl with | [_, _, _, _], _ => rfl
  have F20 := fun_mk (st := s_turned_or_paper) l20 c20 k20
  have b20 := F20.binds (ps := ["both", "settled", "ties", "m"]) fun _ _ _ _ _ _ us hl => match us, hl with | [_, _, _, _], _ => rfl
  have F21 := fun_mk (st := s_least_load) l21 c21 k21
  have b21 := F21.binds (ps := ["net", "ways"]) fun _ _ _ _ _ _ us hl => match us, hl with | [_, _], _ => rfl
  have F22 := fun_mk (st := s_is_turning) l22 c22 k22
  have b22 := F22.binds (ps := ["ways", "turning"]) fun _ _ _ _ _ _ us hl => match us, hl with | [_, _], _ => rfl
  have F23 := fun_mk (st := s_turned) l23 c23 k23
  have b23 := F23.binds (ps := ["net", "ways", "turning"]) fun _ _ _ _ _ _ us hl => match us, hl with | [_, _, _], _ => rfl
  have F24 := fun_mk (st := s_parted) l24 c24 k24
  have b24 := F24.binds (ps := ["net", "ways", "e", "f"]) fun _ _ _ _ _ _ us hl => match us, hl with | [_, _, _, _], _ => rfl
  have F25 := fun_mk (st := s_law_mix) l25 c25 k25
  have b25 := F25.binds (ps := ["_law_number", "_law_k"]) fun _ _ _ _ _ _ us hl => match us, hl with | [_, _], _ => rfl
  have F26 := fun_mk (st := s_law_left) l26 c26 k26
  have b26 := F26.binds (ps := ["_law_cell"]) fun _ _ _ _ _ _ us hl => match us, hl with | [_], _ => rfl
  have F27 := fun_mk (st := s_law_draw) l27 c27 k27
  have b27 := F27.binds (ps := ["_law_left_here", "_law_base"]) fun _ _ _ _ _ _ us hl => match us, hl with | [_, _], _ => rfl
  have F28 := fun_mk (st := s_law_way) l28 c28 k28
  have b28 := F28.binds (ps := ["_law_left_here", "_law_many"]) fun _ _ _ _ _ _ us hl => match us, hl with | [_, _], _ => rfl
  have F29 := fun_mk (st := s_law_twice) l29 c29 k29
  have b29 := F29.binds (ps := ["_law_left_here", "_law_many"]) fun _ _ _ _ _ _ us hl => match us, hl with | [_, _], _ => rfl
  have F30 := fun_mk (st := s_law_round) l30 c30 k30
  have b30 := F30.binds (ps := ["_law_left_here", "_law_many"]) fun _ _ _ _ _ _ us hl => match us, hl with | [_, _], _ => rfl
  have F31 := fun_mk (st := s_law_between) l31 c31 k31
  have b31 := F31.binds (ps := ["_law_way_here", "_law_e", "_law_f"]) fun _ _ _ _ _ _ us hl => match us, hl with | [_, _, _], _ => rfl
  have F32 := fun_mk (st := s_law_most) l32 c32 k32
  have b32 := F32.binds (ps := ["_law_many", "_law_ways"]) fun _ _ _ _ _ _ us hl => match us, hl with | [_, _], _ => rfl
  have F33 := fun_mk (st := s_law_even) l33 c33 k33
  have b33 := F33.binds (ps := ["_law_many", "_law_ways"]) fun _ _ _ _ _ _ us hl => match us, hl with | [_, _], _ => rfl
  have F34 := fun_mk (st := s_law) l34 c34 k34
  have b34 := F34.binds (ps := ["_law_script"]) fun _ _ _ _ _ _ us hl => match us, hl with | [_], _ => rfl
  have T : Txt K mg ⟨f0, _, f1, _, f2, _, f3, _, f4, _, f5, _, f6, _, f7, _, f8, _, f9, _, f10, _, f11, _, f12, _, f13, _, f14, _, f15, _, f16, _, f17, _, f18, _, f19, _, f20, _, f21, _, f22, _, f23, _, f24, _, f25, _, f26, _, f27, _, f28, _, f29, _, f30, _, f31, _, f32, _, f33, _, fa, _⟩ :=
    ⟨PySem.W.mg_of X G a0, F0, b0, PySem.W.mg_of X G a1, F1, b1, PySem.W.mg_of X G a2, F2, b2, PySem.W.mg_of X G a3, F3, b3, PySem.W.mg_of X G a4, F4, b4, PySem.W.mg_of X G a5, F5, b5, PySem.W.mg_of X G a6, F6, b6, PySem.W.mg_of X G a7, F7, b7, PySem.W.mg_of X G a8, F8, b8, PySem.W.mg_of X G a9, F9, b9, PySem.W.mg_of X G a10, F10, b10, PySem.W.mg_of X G a11, F11, b11, PySem.W.mg_of X G a12, F12, b12, PySem.W.mg_of X G a13, F13, b13, PySem.W.mg_of X G a14, F14, b14, PySem.W.mg_of X G a15, F15, b15, PySem.W.mg_of X G a16, F16, b16, PySem.W.mg_of X G a17, F17, b17, PySem.W.mg_of X G a18, F18, b18, PySem.W.mg_of X G a19, F19, b19, PySem.W.mg_of X G a20, F20, b20, PySem.W.mg_of X G a21, F21, b21, PySem.W.mg_of X G a22, F22, b22, PySem.W.mg_of X G a23, F23, b23, PySem.W.mg_of X G a24, F24, b24, PySem.W.mg_of X G a25, F25, b25, PySem.W.mg_of X G a26, F26, b26, PySem.W.mg_of X G a27, F27, b27, PySem.W.mg_of X G a28, F28, b28, PySem.W.mg_of X G a29, F29, b29, PySem.W.mg_of X G a30, F30, b30, PySem.W.mg_of X G a31, F31, b31, PySem.W.mg_of X G a32, F32, b32, PySem.W.mg_of X G a33, F33, b33, PySem.W.mg_of X G a34, F34, b34, tok_mk (PySem.W.mg_of X G e0), tok_mk (PySem.W.mg_of X G e1), PySem.W.mg_none_of X G z0, PySem.W.mg_none_of X G z1, PySem.W.mg_none_of X G z2, PySem.W.mg_none_of X G z3, PySem.W.mg_none_of X G z4, PySem.W.mg_none_of X G z5, PySem.W.mg_none_of X G z6, PySem.W.mg_none_of X G z7, PySem.W.mg_none_of X G z8, PySem.W.mg_none_of X G z9, PySem.W.mg_none_of X G z10⟩
  exact ⟨_, fun s v => .of_eq rfl, fun base _ _ => ok_law T⟩
end Pf
open PySem PySem.W PyProof.Rows
set_option maxHeartbeats 0 in
theorem PySem.Challenge.cw_tiehues_k62_whole_least_loads_by_pairs_holds : PySem.Challenge.rw_tiehues_k62_whole_least_loads_by_pairs.Holds := by
  w_on; o_law; k_head; (case hw => w_witness2)
  k_fill
  refine L2.walk_ofK (l := PySem.Challenge.rw_tiehues_k62_whole_least_loads_by_pairs) (n := 63) (k := 17) (x := "_law_script") (CX := L2.CX0) (sp := Pf.sp_law) rfl (by decide) rfl ⟨rfl, by decide, by decide⟩ (fun w h Y => PySem.W.kIn_of Y) ?F (fun _ _ a ns hl _ hS => ⟨a, ns, rfl, hS, hl, fun _ => rfl⟩) (fun _ _ _ _ h => h)
  case F =>
    intro w mg fa h KX G hmg
    refine' Pf.all_mk KX G hmg ?a0 ?l0 ?c0 ?k0 ?a1 ?l1 ?c1 ?k1 ?a2 ?l2 ?c2 ?k2 ?a3 ?l3 ?c3 ?k3 ?a4 ?l4 ?c4 ?k4 ?a5 ?l5 ?c5 ?k5 ?a6 ?l6 ?c6 ?k6 ?a7 ?l7 ?c7 ?k7 ?a8 ?l8 ?c8 ?k8 ?a9 ?l9 ?c9 ?k9 ?a10 ?l10 ?c10 ?k10 ?a11 ?l11 ?c11 ?k11 ?a12 ?l12 ?c12 ?k12 ?a13 ?l13 ?c13 ?k13 ?a14 ?l14 ?c14 ?k14 ?a15 ?l15 ?c15 ?k15 ?a16 ?l16 ?c16 ?k16 ?a17 ?l17 ?c17 ?k17 ?a18 ?l18 ?c18 ?k18 ?a19 ?l19 ?c19 ?k19 ?a20 ?l20 ?c20 ?k20 ?a21 ?l21 ?c21 ?k21 ?a22 ?l22 ?c22 ?k22 ?a23 ?l23 ?c23 ?k23 ?a24 ?l24 ?c24 ?k24 ?a25 ?l25 ?c25 ?k25 ?a26 ?l26 ?c26 ?k26 ?a27 ?l27 ?c27 ?k27 ?a28 ?l28 ?c28 ?k28 ?a29 ?l29 ?c29 ?k29 ?a30 ?l30 ?c30 ?k30 ?a31 ?l31 ?c31 ?k31 ?a32 ?l32 ?c32 ?k32 ?a33 ?l33 ?c33 ?k33 ?a34 ?l34 ?c34 ?k34 ?e0 ?e1 ?z0 ?z1 ?z2 ?z3 ?z4 ?z5 ?z6 ?z7 ?z8 ?z9 ?z10
    (case a0 => k_is); (case l0 => k_is); (case c0 => k_is); (case k0 => k_is); (case a1 => k_is); (case l1 => k_is); (case c1 => k_is); (case k1 => k_is); (case a2 => k_is); (case l2 => k_is); (case c2 => k_is); (case k2 => k_is); (case a3 => k_is); (case l3 => k_is); (case c3 => k_is); (case k3 => k_is); (case a4 => k_is); (case l4 => k_is); (case c4 => k_is); (case k4 => k_is); (case a5 => k_is); (case l5 => k_is); (case c5 => k_is); (case k5 => k_is); (case a6 => k_is); (case l6 => k_is); (case c6 => k_is); (case k6 => k_is); (case a7 => k_is); (case l7 => k_is); (case c7 => k_is); (case k7 => k_is); (case a8 => k_is); (case l8 => k_is); (case c8 => k_is); (case k8 => k_is); (case a9 => k_is); (case l9 => k_is); (case c9 => k_is); (case k9 => k_is); (case a10 => k_is); (case l10 => k_is); (case c10 => k_is); (case k10 => k_is); (case a11 => k_is); (case l11 => k_is); (case c11 => k_is); (case k11 => k_is); (case a12 => k_is); (case l12 => k_is); (case c12 => k_is); (case k12 => k_is); (case a13 => k_is); (case l13 => k_is); (case c13 => k_is); (case k13 => k_is); (case a14 => k_is); (case l14 => k_is); (case c14 => k_is); (case k14 => k_is); (case a15 => k_is); (case l15 => k_is); (case c15 => k_is); (case k15 => k_is); (case a16 => k_is); (case l16 => k_is); (case c16 => k_is); (case k16 => k_is); (case a17 => k_is); (case l17 => k_is); (case c17 => k_is); (case k17 => k_is); (case a18 => k_is); (case l18 => k_is); (case c18 => k_is); (case k18 => k_is); (case a19 => k_is); (case l19 => k_is); (case c19 => k_is); (case k19 => k_is); (case a20 => k_is); (case l20 => k_is); (case c20 => k_is); (case k20 => k_is); (case a21 => k_is); (case l21 => k_is); (case c21 => k_is); (case k21 => k_is); (case a22 => k_is); (case l22 => k_is); (case c22 => k_is); (case k22 => k_is); (case a23 => k_is); (case l23 => k_is); (case c23 => k_is); (case k23 => k_is); (case a24 => k_is); (case l24 => k_is); (case c24 => k_is); (case k24 => k_is); (case a25 => k_is); (case l25 => k_is); (case c25 => k_is); (case k25 => k_is); (case a26 => k_is); (case l26 => k_is); (case c26 => k_is); (case k26 => k_is); (case a27 => k_is); (case l27 => k_is); (case c27 => k_is); (case k27 => k_is); (case a28 => k_is); (case l28 => k_is); (case c28 => k_is); (case k28 => k_is); (case a29 => k_is); (case l29 => k_is); (case c29 => k_is); (case k29 => k_is); (case a30 => k_is); (case l30 => k_is); (case c30 => k_is); (case k30 => k_is); (case a31 => k_is); (case l31 => k_is); (case c31 => k_is); (case k31 => k_is); (case a32 => k_is); (case l32 => k_is); (case c32 => k_is); (case k32 => k_is); (case a33 => k_is); (case l33 => k_is); (case c33 => k_is); (case k33 => k_is); (case a34 => k_is); (case l34 => k_is); (case c34 => k_is); (case k34 => k_is); (case e0 => k_is); (case e1 => k_is); (case z0 => k_is); (case z1 => k_is); (case z2 => k_is); (case z3 => k_is); (case z4 => k_is); (case z5 => k_is); (case z6 => k_is); (case z7 => k_is); (case z8 => k_is); (case z9 => k_is); (case z10 => k_is)
