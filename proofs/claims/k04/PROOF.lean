import PyProof.Rows.All
import Wide.All
import OpenK.AllK
import Wide.FinOn
import HandS.ForMost
import HandS.NoneIn
import HandS.Conv
import HandS.IsInst
import HandS.Wide
import HandS.SortInts
import HandS.Walk
import KE.DataMinMax
import HandS.ForExc
import HandS.ExcInit
import KE.KExcIs
import HandS.ExcField
import HandS.ExcIs
import HandS.Text
import HandS.Zip
import HandS.Exc
import HandS.WordsDict
import HandS.Deep
import HandS.Iter
import HandS.Sort
import HandS.Dict
import HandS.ExcOwn
import HandS.More
import HandS.Style
import HandS.List
import HandS.Rev
import HandS.Set
import HandS.Strs
import KE.SortData
import HandS.ExcValue
import PySem.Challenge.RW_tiehues_k04_refusals_made
set_option Elab.async false
set_option linter.all false
set_option maxRecDepth 100000
set_option maxHeartbeats 4000000
set_option synthInstance.maxHeartbeats 0
set_option synthInstance.maxSize 1000000
namespace Cm
open PySem PySem.Spec PyProof.Rows L2

/-! ### named readings -/
def rLenX (K : PySem.W.Frag) : List V → Hp → VK → Prop := fun xs H Q => ∃ p ys, xs = [.ref p] ∧ (SqL K H p ys ∨ SqT K H p ys) ∧ Q (.int ys.length) H
theorem q_len {X : Cx} : CallR X (.builtin "len") (rLenX X.K) := call_len_seq
def rListOf (K : PySem.W.Frag) : List V → Hp → VK → Prop := fun xs H Q => ∃ p ys, xs = [.ref p] ∧ (SqL K H p ys ∨ SqT K H p ys) ∧ ∀ l, H l = none → Q (.ref l) (upd H l (.lst ys))
theorem q_listOf {X : Cx} : CallR X (.type "list") (rListOf X.K) := call_list_of
def rMax2 : List V → Hp → VK → Prop := fun xs H Q => ∃ i j, xs = [.int i, .int j] ∧ Q (.int (if j > i then j else i)) H
theorem q_max2 {X : Cx} (hc : X.calm = true) : CallR X (.builtin "max") rMax2 := call_max2 hc
def rMin2 : List V → Hp → VK → Prop := fun xs H Q => ∃ i j, xs = [.int i, .int j] ∧ Q (.int (if j < i then j else i)) H
theorem q_min2 {X : Cx} (hc : X.calm = true) : CallR X (.builtin "min") rMin2 := call_min2 hc
theorem q_isi {X : Cx} : CallR X (.builtin "isinstance") (rIsi X.K) := call_isi
def rIntOf : List V → Hp → VK → Prop := fun xs H Q => (∃ i, xs = [.int i] ∧ Q (.int i) H) ∨ ∃ k, xs = [.bl k] ∧ Q (.int (if k then 1 else 0)) H
theorem q_intB {X : Cx} : CallR X (.type "int") rIntOf := call_int1
theorem q_intI {X : Cx} : CallR X (.type "int") rIntOf := call_int1

/-! ### operators by names -/
def xAdd : R2 := rI0 fun i j => .int (i + j)
def xSub : R2 := rI0 fun i j => .int (i - j)
def xMul : R2 := rI CMul fun i j => .int (i * j)
def xMulW : R2 := rI CMulW fun i j => .int (i * j)
def xDiv : R2 := rI CDiv fun i j => .int (i / j)
def xDivW : R2 := rI CDivW fun i j => .int (i / j)
def xMod : R2 := rI (fun _ j => 0 < j) fun i j => .int (i % j)
def xPow : R2 := rI CPow fun i j => .int (i ^ j.toNat)
def xLt : R2 := rI0 fun i j => .bl (decide (i < j))
def xLe : R2 := rI0 fun i j => .bl (decide (i ≤ j))
def xGt : R2 := rI0 fun i j => .bl (decide (j < i))
def xGe : R2 := rI0 fun i j => .bl (decide (j ≤ i))
def xNeg : V → Hp → VK → Prop := rU fun i => .int (-i)
def xIsN : R2 := fun x y H Q => y = .non ∧ Q (.bl (decide (x = .non))) H
def xNotN : R2 := fun x y H Q => y = .non ∧ Q (.bl (!decide (x = .non))) H
def xTru (K : PySem.W.Frag) (ta : TE) : TT := fun σ H Q => ta σ H fun x H' => ∃ k, TruV K x H' k ∧ Q k H'

/-! ### xs[i] += e -/
def rGetL (K : PySem.W.Frag) : V → V → Hp → VK → Prop := fun x y H Q => ∃ p xs i v, x = .ref p ∧ y = .int i ∧ SqL K H p xs ∧ 0 ≤ i ∧ atI xs i = some v ∧ Q v H
theorem get_list {X : Cx} : PGet X (rGetL X.K) := by
  intro pins s σ H x y v u Q I rx ry h
  obtain ⟨p, xs, i, z, rfl, rfl, hq, h0, he, q⟩ := h
  cases rx
  obtain ⟨t, rfl⟩ := ry
  obtain ⟨its, r, pl, hz⟩ := I.list hq
  obtain ⟨j, h1, h2, h3, h4, h5⟩ := atI_get he
  obtain ⟨w, ew, rw'⟩ := r.get h2
  have hl := r.length
  have hn := line63
  have fin : EP X pins σ Q w s := ⟨z, H, I, rw', q⟩
  have hj : i.toNat = j := by
    rw [seqIndex_of h0 h5] at h1
    exact Option.some.inj h1
  exact wpAny_getItem_list pl.isList h0 (by omega) (by rw [hj]; simpa using ew) fin
def xAugL (K : PySem.W.Frag) (to ti te : TE) : TS := tAugS to ti te (rGetL K) (ipI fun i j => i + j) rSetL
theorem q_augL {X : Cx} {o i e : Expr} {to ti te : TE} {tpos pos : Pos} (ho : PE X o to) (hi : PE X i ti) (he : PE X e te)
    (ha : ∀ ov iv new, augStore i ov iv new = (do holding [new, ov, iv] (setItem ov iv new); release [new, ov, iv] []; pure .next) := by intros; rfl) : PS X (.AugAssign (.Subscript o i tpos) .Add e pos) (xAugL X.K to ti te) :=
  ps_augS ho hi get_list he ip_add set_list ha

/-! ### constants of the module -/
def g_tok (mg : Str → Option Value) (x : Str) : Tok := match mg x with
  | some (.int _ t) => t
  | _ => default
theorem tok_mk {mg : Str → Option Value} {x : Str} {n : Int} {t : Tok} (h : mg x = some (.int n t)) : mg x = some (.int n (g_tok mg x)) := by
  unfold g_tok
  rw [h]

/-! ### heaps -/
theorem same_new {H : Hp} {p : Addr} {o : HO} (h : H p = none) : Same H (upd H p o) := fun b x e => by
  rw [upd_ne (ne_of_none e h)]
  exact e
theorem same_mut {H H' : Hp} {p : Addr} {o : HO} (e : Same H H') (h : H p = none) : Same H (upd H' p o) := fun a u ha => by
  rw [upd_ne (ne_of_none ha h)]
  exact e a u ha
theorem same_seqT {K : PySem.W.Frag} {H H' : Hp} {a : Addr} {xs : List V} (e : Same H H') (h : SqT K H a xs) : SqT K H' a xs := by
  rcases h with (h | ⟨o, h⟩) | h
  · exact .inl (.inl (e _ _ h))
  · exact .inl (.inr ⟨o, e _ _ h⟩)
  · exact .inr h
theorem sl {K : PySem.W.Frag} {H : Hp} {a : Addr} {xs : List V} (h : H a = some (.lst xs)) : SqL K H a xs := .inl (.inl h)
theorem stp {K : PySem.W.Frag} {H : Hp} {a : Addr} {xs : List V} (h : H a = some (.tup xs)) : SqT K H a xs := .inl (.inl h)
theorem sz {n : Nat} (h : n ≤ 100000) : n ≤ sizeLine := Nat.le_trans h (by decide)
theorem szl {n : Nat} (h : n < 100000) : n < sizeLine := Nat.lt_of_lt_of_le h (by decide)

/-! ### data -/
mutual
theorem dp_same {K : PySem.W.Frag} {H H' : Hp} (e : Same H H') : ∀ {v : V} {d : PyData}, Dp K H v d → Dp K H' v d
  | _, _, .non => .non
  | _, _, .bl b => .bl b
  | _, _, .int i => .int i
  | _, _, .str x => .str x
  | _, _, .lst s r => .lst (e.seq s) (dpa_same e r)
  | _, _, .tup s r => .tup (same_seqT e s) (dpa_same e r)
theorem dpa_same {K : PySem.W.Frag} {H H' : Hp} (e : Same H H') : ∀ {vs : List V} {ds : List PyData}, DpAll K H vs ds → DpAll K H' vs ds
  | _, _, .nil => .nil
  | _, _, .cons h r => .cons (dp_same e h) (dpa_same e r)
end
section
variable {K : PySem.W.Frag} {H : Hp}
theorem dp_int {v : V} {i : Int} (h : Dp K H v (.int i)) : v = .int i := by cases h; rfl
theorem dp_bool {v : V} {b : Bool} (h : Dp K H v (.bool b)) : v = .bl b := by cases h; rfl
theorem dp_str {v : V} {s : Str} (h : Dp K H v (.str s)) : v = .str s := by cases h; rfl
theorem dp_list {v : V} {ds : List PyData} (h : Dp K H v (.list ds)) : ∃ a xs, v = .ref a ∧ SqL K H a xs ∧ DpAll K H xs ds := by
  cases h with | lst s r => exact ⟨_, _, rfl, s, r⟩
theorem dp_tup {v : V} {ds : List PyData} (h : Dp K H v (.tuple ds)) : ∃ a xs, v = .ref a ∧ SqT K H a xs ∧ DpAll K H xs ds := by
  cases h with | tup s r => exact ⟨_, _, rfl, s, r⟩
theorem dp_tup2 {v : V} {c d : PyData} (h : Dp K H v (.tuple [c, d])) : ∃ a x y, v = .ref a ∧ SqT K H a [x, y] ∧ Dp K H x c ∧ Dp K H y d := by
  cases h with | tup s r =>
    cases r with | cons h1 r =>
      cases r with | cons h2 r =>
        cases r
        exact ⟨_, _, _, rfl, s, h1, h2⟩
theorem dp_pair {v : V} {a b : Int} (h : Dp K H v (.tuple [.int a, .int b])) : ∃ p, v = .ref p ∧ SqT K H p [.int a, .int b] := by
  obtain ⟨p, x, y, rfl, s, h1, h2⟩ := dp_tup2 h
  rw [dp_int h1, dp_int h2] at s
  exact ⟨p, rfl, s⟩
theorem dpa_ints : ∀ {ns : List Int} {vs : List V}, DpAll K H vs (ns.map PyData.int) → vs = ns.map V.int
  | [], _, h => by cases h; rfl
  | n :: r, _, h => by
    cases h with | cons h1 h2 => rw [dp_int h1, dpa_ints h2]; rfl
theorem dpa_of_ints : ∀ ns : List Int, DpAll K H (ns.map V.int) (ns.map PyData.int)
  | [] => .nil
  | n :: r => .cons (.int n) (dpa_of_ints r)
theorem dpa_len : ∀ {vs : List V} {ds : List PyData}, DpAll K H vs ds → vs.length = ds.length
  | _, _, .nil => rfl
  | _, _, .cons _ r => by simp [dpa_len r]
theorem dpa_get : ∀ {vs : List V} {ds : List PyData} {i : Nat} {v : V}, DpAll K H vs ds → vs[i]? = some v → ∃ d, ds[i]? = some d ∧ Dp K H v d
  | _, _, _, _, .nil, e => by simp at e
  | _, _, 0, _, .cons h _, e => by simp at e; subst e; exact ⟨_, rfl, h⟩
  | _, _, i + 1, _, .cons _ r, e => by
    obtain ⟨d, h1, h2⟩ := dpa_get (i := i) r (by simpa using e)
    exact ⟨d, by simpa using h1, h2⟩
theorem dpa_get2 : ∀ {vs : List V} {ds : List PyData} {i : Nat} {d : PyData}, DpAll K H vs ds → ds[i]? = some d → ∃ v, vs[i]? = some v ∧ Dp K H v d
  | _, _, _, _, .nil, e => by simp at e
  | _, _, 0, _, .cons h _, e => by simp at e; subst e; exact ⟨_, rfl, h⟩
  | _, _, i + 1, _, .cons _ r, e => by
    obtain ⟨d, h1, h2⟩ := dpa_get2 (i := i) r (by simpa using e)
    exact ⟨d, by simpa using h1, h2⟩
theorem dpa_app {vs ws : List V} {ds es : List PyData} : DpAll K H vs ds → DpAll K H ws es → DpAll K H (vs ++ ws) (ds ++ es)
  | .nil, r => r
  | .cons h t, r => .cons h (dpa_app t r)
/-- a list of ints -/
abbrev dInts (ns : List Int) : PyData := .list (ns.map PyData.int)
theorem dp_ints {v : V} {ns : List Int} (h : Dp K H v (dInts ns)) : ∃ a, v = .ref a ∧ SqL K H a (ns.map V.int) := by
  obtain ⟨a, xs, rfl, s, r⟩ := dp_list h
  rw [dpa_ints r] at s
  exact ⟨a, rfl, s⟩
theorem dp_of_ints {a : Addr} {ns : List Int} (h : SqL K H a (ns.map V.int)) : Dp K H (.ref a) (dInts ns) := .lst h (dpa_of_ints ns)
/-- a pair of ints -/
abbrev dPair (p : Int × Int) : PyData := .tuple [.int p.1, .int p.2]
theorem dp_of_pair {a : Addr} {x y : Int} (h : SqT K H a [.int x, .int y]) : Dp K H (.ref a) (dPair (x, y)) := .tup h (.cons (.int x) (.cons (.int y) .nil))
abbrev dPairs (ps : List (Int × Int)) : PyData := .list (ps.map dPair)
end

theorem dpairs_get {K : PySem.W.Frag} {H : Hp} {xs : List V} {ps : List (Int × Int)} {i : Nat} {x : V} (hxs : DpAll K H xs (ps.map dPair)) (hx : xs[i]? = some x) : ∃ p c, ps[i]? = some p ∧ x = .ref c ∧ SqT K H c [.int p.1, .int p.2] := by
  obtain ⟨d, hd, hdx⟩ := dpa_get hxs hx
  rw [List.getElem?_map] at hd
  obtain ⟨p, hp, rfl⟩ := Option.map_eq_some_iff.mp hd
  obtain ⟨c, rfl, hcs⟩ := dp_pair hdx
  exact ⟨p, c, hp, rfl, hcs⟩
/-- data that may be compared: no dicts, at most n deep -/
def Sh (n : Nat) (d : PyData) : Prop := d.canLay0 = true ∧ d.depth ≤ n
theorem Sh.shaped {n : Nat} {d : PyData} (h : Sh n d) (hn : n ≤ 64) : SeqAt.shaped d = true := by
  unfold SeqAt.shaped
  rw [h.1, decide_eq_true (Nat.le_trans h.2 hn)]; rfl
theorem Sh.mono {n m : Nat} {d : PyData} (h : Sh n d) (hn : n ≤ m) : Sh m d := ⟨h.1, Nat.le_trans h.2 hn⟩
theorem sh_int {n : Nat} {i : Int} : Sh n (.int i) := ⟨rfl, Nat.zero_le _⟩
theorem sh_bool {n : Nat} {b : Bool} : Sh n (.bool b) := ⟨rfl, Nat.zero_le _⟩
theorem sh_none {n : Nat} : Sh n .none := ⟨rfl, Nat.zero_le _⟩
theorem sh_all {n : Nat} : ∀ {ds : List PyData}, (∀ d ∈ ds, Sh n d) → PyData.canLayAll0 ds = true ∧ PyData.depthAll ds ≤ n
  | [], _ => ⟨rfl, Nat.zero_le _⟩
  | d :: r, h => by
    obtain ⟨h1, h2⟩ := sh_all (ds := r) fun x hx => h x (List.mem_cons_of_mem _ hx)
    obtain ⟨h3, h4⟩ := h d List.mem_cons_self
    refine ⟨?_, ?_⟩
    · show (PyData.canLay0 d && PyData.canLayAll0 r) = true
      rw [h3, h1]; rfl
    · show max d.depth (PyData.depthAll r) ≤ n
      omega
theorem sh_list {n : Nat} {ds : List PyData} (h : ∀ d ∈ ds, Sh n d) : Sh (n + 1) (.list ds) := by
  obtain ⟨h1, h2⟩ := sh_all h
  exact ⟨h1, by show PyData.depthAll ds + 1 ≤ n + 1; omega⟩
theorem sh_tup {n : Nat} {ds : List PyData} (h : ∀ d ∈ ds, Sh n d) : Sh (n + 1) (.tuple ds) := by
  obtain ⟨h1, h2⟩ := sh_all h
  exact ⟨h1, by show PyData.depthAll ds + 1 ≤ n + 1; omega⟩
theorem sh_ints {n : Nat} (ns : List Int) : Sh (n + 1) (dInts ns) := sh_list fun d hd => by
  obtain ⟨i, _, rfl⟩ := List.mem_map.mp hd
  exact sh_int
theorem sh_pair {n : Nat} (p : Int × Int) : Sh (n + 1) (dPair p) := sh_tup fun d hd => by
  rcases List.mem_cons.mp hd with rfl | hd
  · exact sh_int
  · rcases List.mem_cons.mp hd with rfl | hd
    · exact sh_int
    · cases hd
theorem sh_pairs {n : Nat} (ps : List (Int × Int)) : Sh (n + 2) (dPairs ps) := sh_list fun d hd => by
  obtain ⟨p, _, rfl⟩ := List.mem_map.mp hd
  exact sh_pair p
theorem sh_two {n : Nat} {c d : PyData} (h1 : Sh n c) (h2 : Sh n d) : Sh (n + 1) (.tuple [c, d]) := sh_tup fun x hx => by
  rcases List.mem_cons.mp hx with rfl | hx
  · exact h1
  · rcases List.mem_cons.mp hx with rfl | hx
    · exact h2
    · cases hx
theorem Sh.refl {n : Nat} {d : PyData} (h : Sh n d) : PyData.eqv d d = true := SeqAt.eqv_refl d h.1
theorem ff_iff {P : Prop} (h : ¬ P) : false = true ↔ P := ⟨fun z => (nomatch z), fun z => (h z).elim⟩
theorem tt_iff {P : Prop} (h : P) : true = true ↔ P := ⟨fun _ => h, fun _ => rfl⟩

theorem ixN_of {n : Nat} {i : Int} (h0 : 0 ≤ i) (h1 : i < n) : ixN n i = some i.toNat := by unfold ixN; rw [if_pos h0, if_pos h1]
theorem map_erase (ns : List Int) (i : Nat) : (ns.map V.int).eraseIdx i = (ns.eraseIdx i).map V.int := by
  induction ns generalizing i with
  | nil => rfl
  | cons x r ih => cases i with
    | zero => rfl
    | succ i => show V.int x :: (r.map V.int).eraseIdx i = _; rw [ih]; rfl
theorem erase_perm {α : Type} (l : List α) (i : Nat) (h : i < l.length) : (l[i] :: l.eraseIdx i).Perm l := by
  induction l generalizing i with
  | nil => exact absurd h (by simp)
  | cons x r ih => cases i with
    | zero => exact List.Perm.refl _
    | succ i =>
      have h' : i < r.length := by simpa using h
      show (r[i] :: x :: r.eraseIdx i).Perm (x :: r)
      exact (List.Perm.swap _ _ _).trans ((ih i h').cons x)
theorem getD_memI {ns : List Int} {i : Int} (h0 : 0 ≤ i) (h1 : i < ns.length) : ns.getD i.toNat 0 ∈ ns := by
  have h : i.toNat < ns.length := by omega
  rw [List.getD_eq_getElem?_getD, List.getElem?_eq_getElem h]
  exact List.getElem_mem h
theorem not_in2 {p a b : Addr} (h1 : p ≠ a) (h2 : p ≠ b) : p ∉ [a, b] := by
  intro z
  rcases List.mem_cons.mp z with z | z
  · exact h1 z
  · rcases List.mem_cons.mp z with z | z
    · exact h2 z
    · cases z

/-! ### readings, step by step -/
section
variable {K : PySem.W.Frag} {σ : L2.St} {H : Hp} {D : Ends} {Q : VK} {ta tb te : TE} {t u : TT} {s1 s2 : TS} {QT : Bool → Hp → Prop} {QA : List V → Hp → Prop} {tr : TA} {QS : L2.St → Hp → Prop}
theorem k_seq {nx : L2.St → Hp → Prop} {rt : VK} {bk ct : L2.St → Hp → Prop} (h : s1 ⟨s2 ⟨nx, rt, bk, ct⟩, rt, bk, ct⟩ σ H) : tSeq s1 s2 ⟨nx, rt, bk, ct⟩ σ H := h
theorem k_nx {nx : L2.St → Hp → Prop} {rt : VK} {bk ct : L2.St → Hp → Prop} (h : nx σ H) : Ends.nx ⟨nx, rt, bk, ct⟩ σ H := h
theorem k_next {nx : L2.St → Hp → Prop} {rt : VK} {bk ct : L2.St → Hp → Prop} (h : nx σ H) : tNext ⟨nx, rt, bk, ct⟩ σ H := h
theorem k_cont {nx : L2.St → Hp → Prop} {rt : VK} {bk ct : L2.St → Hp → Prop} (h : ct σ H) : tCont ⟨nx, rt, bk, ct⟩ σ H := h
theorem k_brk {nx : L2.St → Hp → Prop} {rt : VK} {bk ct : L2.St → Hp → Prop} (h : bk σ H) : tBreak ⟨nx, rt, bk, ct⟩ σ H := h
theorem k_set {nx : L2.St → Hp → Prop} {rt : VK} {bk ct : L2.St → Hp → Prop} {i : Nat} (h : te σ H fun x H1 => nx (σ.set i (some x)) H1) : tAsg te (gName i) ⟨nx, rt, bk, ct⟩ σ H := h
theorem k_asg {nx : L2.St → Hp → Prop} {rt : VK} {bk ct : L2.St → Hp → Prop} {g : TG} (h : te σ H fun x H1 => g x σ H1 nx) : tAsg te g ⟨nx, rt, bk, ct⟩ σ H := h
theorem k_drop {nx : L2.St → Hp → Prop} {rt : VK} {bk ct : L2.St → Hp → Prop} (h : te σ H fun _ H1 => nx σ H1) : tDrop te ⟨nx, rt, bk, ct⟩ σ H := h
theorem k_ret {nx : L2.St → Hp → Prop} {rt : VK} {bk ct : L2.St → Hp → Prop} (h : te σ H rt) : tRet te ⟨nx, rt, bk, ct⟩ σ H := h
theorem k_retN {nx : L2.St → Hp → Prop} {rt : VK} {bk ct : L2.St → Hp → Prop} (h : rt .non H) : tRetN ⟨nx, rt, bk, ct⟩ σ H := h
theorem k_aug {nx : L2.St → Hp → Prop} {rt : VK} {bk ct : L2.St → Hp → Prop} {i : Nat} {f : Int → Int → Int} {a : Int} (e : σ[i]? = some (some (.int a))) (h : te σ H fun y H1 => ipI f (.int a) y H1 fun z H2 => nx (σ.set i (some z)) H2) : tAug i te (ipI f) ⟨nx, rt, bk, ct⟩ σ H := ⟨_, e, h⟩
theorem k_augL {nx : L2.St → Hp → Prop} {rt : VK} {bk ct : L2.St → Hp → Prop} {to ti : TE} (h : to σ H fun o H1 => ti σ H1 fun i H2 => rGetL K o i H2 fun x H3 => te σ H3 fun y H4 => ipI (fun i j => i + j) x y H4 fun z H5 => rSetL o i z H5 fun H6 => nx σ H6) : xAugL K to ti te ⟨nx, rt, bk, ct⟩ σ H := h
theorem k_ipI {f : Int → Int → Int} {a b : Int} (h : Q (.int (f a b)) H) : ipI f (.int a) (.int b) H Q := ⟨a, b, rfl, rfl, h⟩
theorem k_if (h : t σ H fun b H1 => if b = true then s1 D σ H1 else s2 D σ H1) : tIfS t s1 s2 D σ H := h
theorem k_var {i : Nat} {v : V} (e : σ[i]? = some (some v)) (h : Q v H) : tVar i σ H Q := ⟨v, e, h⟩
theorem k_c {v : V} (h : Q v H) : tC v σ H Q := h
theorem k_op {r : R2} (h : ta σ H fun x H1 => tb σ H1 fun y H2 => r x y H2 Q) : tOp r ta tb σ H Q := h
theorem k_un {r : V → Hp → VK → Prop} (h : ta σ H fun x H1 => r x H1 Q) : tUn r ta σ H Q := h
theorem k_I0 {g : Int → Int → V} {i j : Int} (h : Q (g i j) H) : rI0 g (.int i) (.int j) H Q := ⟨i, j, rfl, rfl, h⟩
theorem k_I {C : Int → Int → Prop} {g : Int → Int → V} {i j : Int} (hc : C i j) (h : Q (g i j) H) : rI C g (.int i) (.int j) H Q := ⟨i, j, rfl, rfl, hc, h⟩
theorem k_add {i j : Int} (h : Q (.int (i + j)) H) : xAdd (.int i) (.int j) H Q := ⟨i, j, rfl, rfl, h⟩
theorem k_sub {i j : Int} (h : Q (.int (i - j)) H) : xSub (.int i) (.int j) H Q := ⟨i, j, rfl, rfl, h⟩
theorem k_mul {i j : Int} (hc : CMul i j) (h : Q (.int (i * j)) H) : xMul (.int i) (.int j) H Q := ⟨i, j, rfl, rfl, hc, h⟩
theorem k_mulW {i j : Int} (hc : CMulW i j) (h : Q (.int (i * j)) H) : xMulW (.int i) (.int j) H Q := ⟨i, j, rfl, rfl, hc, h⟩
theorem k_div {i j : Int} (hc : CDiv i j) (h : Q (.int (i / j)) H) : xDiv (.int i) (.int j) H Q := ⟨i, j, rfl, rfl, hc, h⟩
theorem k_divW {i j : Int} (hc : CDivW i j) (h : Q (.int (i / j)) H) : xDivW (.int i) (.int j) H Q := ⟨i, j, rfl, rfl, hc, h⟩
theorem k_mod {i j : Int} (hc : 0 < j) (h : Q (.int (i % j)) H) : xMod (.int i) (.int j) H Q := ⟨i, j, rfl, rfl, hc, h⟩
theorem k_pow {i j : Int} (hc : CPow i j) (h : Q (.int (i ^ j.toNat)) H) : xPow (.int i) (.int j) H Q := ⟨i, j, rfl, rfl, hc, h⟩
theorem k_lt {i j : Int} (h : Q (.bl (decide (i < j))) H) : xLt (.int i) (.int j) H Q := ⟨i, j, rfl, rfl, h⟩
theorem k_le {i j : Int} (h : Q (.bl (decide (i ≤ j))) H) : xLe (.int i) (.int j) H Q := ⟨i, j, rfl, rfl, h⟩
theorem k_gt {i j : Int} (h : Q (.bl (decide (j < i))) H) : xGt (.int i) (.int j) H Q := ⟨i, j, rfl, rfl, h⟩
theorem k_ge {i j : Int} (h : Q (.bl (decide (j ≤ i))) H) : xGe (.int i) (.int j) H Q := ⟨i, j, rfl, rfl, h⟩
theorem k_neg {i : Int} (h : Q (.int (-i)) H) : xNeg (.int i) H Q := ⟨i, rfl, h⟩
theorem k_U {g : Int → V} {i : Int} (h : Q (g i) H) : rU g (.int i) H Q := ⟨i, rfl, h⟩
theorem k_eqI {i j : Int} (h : Q (.bl (decide (i = j))) H) : rEq (.int i) (.int j) H Q := ⟨rfl, by
  have e : decide (V.int i = V.int j) = decide (i = j) := by
    by_cases c : i = j
    · rw [decide_eq_true c, decide_eq_true (by rw [c])]
    · rw [decide_eq_false c, decide_eq_false (fun z => c (V.int.inj z))]
  rw [e]; exact h⟩
theorem k_neI {i j : Int} (h : Q (.bl (!decide (i = j))) H) : rNe (.int i) (.int j) H Q := ⟨rfl, by
  have e : decide (V.int i = V.int j) = decide (i = j) := by
    by_cases c : i = j
    · rw [decide_eq_true c, decide_eq_true (by rw [c])]
    · rw [decide_eq_false c, decide_eq_false (fun z => c (V.int.inj z))]
  rw [e]; exact h⟩
theorem k_test (h : te σ H fun x H1 => ∃ k, x = .bl k ∧ QT k H1) : tTest te σ H QT := h
theorem k_B (h : te σ H fun x H1 => ∃ k, x = .bl k ∧ QT k H1) : tB te σ H QT := h
theorem k_bl {b : Bool} {R : Bool → Prop} (h : R b) : ∃ k, V.bl b = .bl k ∧ R k := ⟨b, rfl, h⟩
theorem k_and (h : t σ H fun c H1 => if c = true then u σ H1 QT else QT false H1) : tAnd t u σ H QT := h
theorem k_or (h : t σ H fun c H1 => if c = true then QT true H1 else u σ H1 QT) : tOr t u σ H QT := h
theorem k_not (h : t σ H fun c H1 => QT (!c) H1) : tNot t σ H QT := h
theorem k_notV (h : ta σ H fun x H1 => ∃ c, x = .bl c ∧ Q (.bl (!c)) H1) : tNotV ta σ H Q := h
theorem k_andV (h : ta σ H fun x H1 => ∃ c, x = .bl c ∧ if c = true then tb σ H1 Q else Q (.bl false) H1) : tAndV ta tb σ H Q := h
theorem k_orV (h : ta σ H fun x H1 => ∃ c, x = .bl c ∧ if c = true then Q (.bl true) H1 else tb σ H1 Q) : tOrV ta tb σ H Q := h
theorem k_cb {r : List V → Hp → VK → Prop} (h : tr σ H fun vs H1 => r vs H1 Q) : tCB r tr σ H Q := h
theorem k_nil (h : QA [] H) : tNil σ H QA := h
theorem k_cons (h : ta σ H fun x H1 => tr σ H1 fun xs H2 => QA (x :: xs) H2) : tCons ta tr σ H QA := h
theorem k_call {sp : Sp} {dvs : List V} {E : XK} (h : tr σ H fun vs H1 => sp (vs ++ dvs) H1 Q E) : tCall sp dvs E tr σ H Q := h
theorem k_len {p : Addr} {ys : List V} (hs : SqL K H p ys) (h : Q (.int ys.length) H) : rLenX K [.ref p] H Q := ⟨p, ys, rfl, .inl hs, h⟩
theorem k_len0 {p : Addr} (hs : H p = some (.lst [])) (h : Q (.int 0) H) : rLenX K [.ref p] H Q := ⟨p, [], rfl, .inl (sl hs), h⟩
theorem k_lenT {p : Addr} {ys : List V} (hs : SqT K H p ys) (h : Q (.int ys.length) H) : rLenX K [.ref p] H Q := ⟨p, ys, rfl, .inr hs, h⟩
theorem k_lenI {p : Addr} {ns : List Int} (hs : SqL K H p (ns.map V.int)) (h : Q (.int ns.length) H) : rLenX K [.ref p] H Q := ⟨p, _, rfl, .inl hs, by rw [List.length_map]; exact h⟩
theorem k_list {p : Addr} {ys : List V} (hs : SqL K H p ys) (h : ∀ l, H l = none → Q (.ref l) (upd H l (.lst ys))) : rListOf K [.ref p] H Q := ⟨p, ys, rfl, .inl hs, h⟩
theorem k_lst (h : tr σ H fun xs H1 => xs.length ≤ sizeLine ∧ ∀ p, H1 p = none → Q (.ref p) (upd H1 p (.lst xs))) : tLst tr σ H Q := h
theorem k_tup (h : tr σ H fun xs H1 => xs.length ≤ sizeLine ∧ ∀ p, H1 p = none → Q (.ref p) (upd H1 p (.tup xs))) : tTup tr σ H Q := h
theorem k_new {xs : List V} {R : Addr → Prop} (hn : xs.length ≤ 100000) (h : ∀ p, H p = none → R p) : xs.length ≤ sizeLine ∧ ∀ p, H p = none → R p := ⟨sz hn, h⟩
theorem k_gtup {n : Nat} {g : TGs} {a : Addr} {xs : List V} (hs : SqT K H a xs) (hn : xs.length = n) (h : g xs σ H QS) : gTup K n g (.ref a) σ H QS := ⟨a, xs, rfl, hs, hn, h⟩
theorem k_gunl {n : Nat} {g : TGs} {a : Addr} {xs : List V} (hs : SqL K H a xs) (hn : xs.length = n) (h : g xs σ H QS) : gUnl K n g (.ref a) σ H QS := ⟨a, xs, rfl, hs, hn, h⟩
theorem k_gcons {g : TG} {gs : TGs} {v : V} {r : List V} (h : g v σ H fun σ' H' => gs r σ' H' QS) : gCons g gs (v :: r) σ H QS := ⟨v, r, rfl, h⟩
theorem k_gnil (h : QS σ H) : gNil [] σ H QS := ⟨rfl, h⟩
theorem k_gname {i : Nat} {v : V} (h : QS (σ.set i (some v)) H) : gName i v σ H QS := h
theorem k_gsub {to ti : TE} {ts : TSet} {v : V} (h : to σ H fun o H1 => ti σ H1 fun i H2 => ts o i v H2 fun H3 => QS σ H3) : gSub to ti ts v σ H QS := h
theorem k_setL {p : Addr} {xs : List V} {k : Int} {j : Nat} {v : V} {QH : Hp → Prop} (hp : H p = some (.lst xs)) (hj : ixN xs.length k = some j) (h : QH (upd H p (.lst (xs.set j v)))) : rSetL (.ref p) (.int k) v H QH := ⟨p, xs, k, j, rfl, rfl, hp, hj, h⟩
theorem k_ixL {p : Addr} {xs : List V} {i : Int} {v : V} (hs : SqL K H p xs) (ha : atI xs i = some v) (h : Q v H) : rIxL K (.ref p) (.int i) H Q := ⟨p, xs, i, v, rfl, rfl, hs, ha, h⟩
theorem k_ixT {p : Addr} {xs : List V} {i : Int} {v : V} (hs : SqT K H p xs) (ha : atI xs i = some v) (h : Q v H) : rIxT K (.ref p) (.int i) H Q := ⟨p, xs, i, v, rfl, rfl, hs, ha, h⟩
theorem k_min {p : Addr} {ns : List Int} (hs : SqL K H p (ns.map V.int)) (h0 : 0 < ns.length) (h : ∀ m, m ∈ ns → (∀ y, y ∈ ns → m ≤ y) → Q (.int m) H) : rMin K [.ref p] H Q := ⟨p, ns, rfl, hs, h0, h⟩
theorem k_max {p : Addr} {ns : List Int} (hs : SqL K H p (ns.map V.int)) (h0 : 0 < ns.length) (h : ∀ m, m ∈ ns → (∀ y, y ∈ ns → y ≤ m) → Q (.int m) H) : rMax K [.ref p] H Q := ⟨p, ns, rfl, hs, h0, h⟩
theorem k_popI {p : Addr} {ns : List Int} {i : Int} (hp : H p = some (.lst (ns.map V.int))) (h0 : 0 ≤ i) (h1 : i < ns.length) (h2 : i < 1000000) (h : Q (.int (ns.getD i.toNat 0)) (upd H p (.lst ((ns.eraseIdx i.toNat).map V.int)))) : rPopAt (.ref p) [.int i] H Q := by
  refine ⟨p, _, i, i.toNat, .int (ns.getD i.toNat 0), rfl, rfl, hp, by omega, by omega, ?_, ?_, ?_⟩
  · exact (ixN_seq (ixN_of h0 (by rw [List.length_map]; exact h1))).1
  · have hh : i.toNat < ns.length := by omega
    rw [List.getElem?_map, List.getElem?_eq_getElem hh]
    simp [List.getD_eq_getElem?_getD, List.getElem?_eq_getElem hh]
  · have e : (ns.map V.int).eraseIdx i.toNat = (ns.eraseIdx i.toNat).map V.int := map_erase ns _
    rw [e]; exact h
theorem k_sortedI {a : Addr} {ns : List Int} (hs : SqL K H a (ns.map V.int)) (h : ∀ (ns' : List Int) (p : Addr), ns'.Perm ns → ns'.Pairwise (· ≤ ·) → H p = none → Q (.ref p) (upd H p (.lst (ns'.map V.int)))) : rSortedI K [.ref a] H Q := ⟨a, ns, rfl, hs, h⟩
theorem k_max2 {i j : Int} (h : Q (.int (if j > i then j else i)) H) : rMax2 [.int i, .int j] H Q := ⟨i, j, rfl, h⟩
theorem k_min2 {i j : Int} (h : Q (.int (if j < i then j else i)) H) : rMin2 [.int i, .int j] H Q := ⟨i, j, rfl, h⟩
theorem k_bm {T : String} {r : V → List V → Hp → VK → Prop} (h : ta σ H fun x H1 => tyV K T x H1 ∧ tr σ H1 fun xs H2 => r x xs H2 Q) : tBM K T r ta tr σ H Q := h
theorem k_bm0 {T : String} {r : V → List V → Hp → VK → Prop} (h : ta σ H fun x H1 => tyV K T x H1 ∧ r x [] H1 Q) : tBM0 K T r ta σ H Q := h
theorem k_cat {p q : Addr} {xs ys : List V} (hp : H p = some (.lst xs)) (hq : H q = some (.lst ys)) (hz : xs.length + ys.length ≤ 100000) (h : ∀ l, H l = none → Q (.ref l) (upd H l (.lst (xs ++ ys)))) : rCat (.ref p) (.ref q) H Q := ⟨p, q, xs, ys, rfl, rfl, hp, hq, sz hz, h⟩
theorem k_tyL {p : Addr} {xs : List V} {R : Prop} (hp : SqL K H p xs) (h : R) : tyV K "list" (.ref p) H ∧ R := ⟨.inl ⟨rfl, _, hp⟩, h⟩
theorem k_append {p : Addr} {xs : List V} {y : V} (hp : H p = some (.lst xs)) (hn : xs.length < 100000) (h : Q .non (upd H p (.lst (xs ++ [y])))) : rAppend (.ref p) [y] H Q := ⟨p, xs, y, rfl, rfl, hp, szl hn, h⟩
theorem k_itT {b : Bool} {A B : Prop} (e : b = true) (h : A) : if b = true then A else B := by rw [if_pos e]; exact h
theorem k_itF {b : Bool} {A B : Prop} (e : b = false) (h : B) : if b = true then A else B := by rw [e]; exact h
theorem iteNT {A B : Prop} (h : B) : if (!true) = true then A else B := iteF h
theorem iteNF {A B : Prop} (h : A) : if (!false) = true then A else B := iteT h
theorem k_itDT {c A B : Prop} [Decidable c] (e : c) (h : A) : if decide c = true then A else B := by rw [if_pos (decide_eq_true e)]; exact h
theorem k_itDF {c A B : Prop} [Decidable c] (e : ¬ c) (h : B) : if decide c = true then A else B := by rw [decide_eq_false e]; exact h
theorem k_itNT {c A B : Prop} [Decidable c] (e : ¬ c) (h : A) : if (!decide c) = true then A else B := by rw [decide_eq_false e]; exact h
theorem k_itNF {c A B : Prop} [Decidable c] (e : c) (h : B) : if (!decide c) = true then A else B := by rw [decide_eq_true e]; exact h
theorem k_for {nx : L2.St → Hp → Prop} {rt : VK} {bk ct : L2.St → Hp → Prop} {wi : TI} {g : TG} {tb : TS} (h : wi σ H fun J H1 => ∃ W : Nat → Nat → L2.St → Hp → Prop, (∃ m, W 0 m σ H1) ∧ ∀ i m σ H, W i m σ H →
  (J.stop i H ∧ nx σ H) ∨ (J.go i H ∧ ∃ N : L2.St → Hp → Prop, (∀ σ' H', N σ' H' → ∃ m', m' < m ∧ W (i + 1) m' σ' H') ∧ ∀ x H', J.yld i H x H' → g x σ H' fun σ2 H2 => tb ⟨N, rt, nx, N⟩ σ2 H2)) : tFor wi g tb ⟨nx, rt, bk, ct⟩ σ H := h
theorem forL {nx : L2.St → Hp → Prop} {rt : VK} {b : Addr} {xs : List V} {g : TG} {tb : TS} (hs0 : SqL K H b xs) (Pv : Nat → L2.St → Hp → Prop) (h0 : Pv 0 σ H) (hl : ∀ i σ H, i ≤ xs.length → Pv i σ H → SqL K H b xs)
    (hs : ∀ (i : Nat) x σ H, xs[i]? = some x → Pv i σ H → g x σ H fun σ2 H2 => tb ⟨Pv (i + 1), rt, nx, Pv (i + 1)⟩ σ2 H2) (hd : ∀ σ H, Pv xs.length σ H → nx σ H) :
    ∃ a, V.ref b = .ref a ∧ (∃ xs, SqL K H a xs) ∧ ∃ W : Nat → Nat → L2.St → Hp → Prop, (∃ m, W 0 m σ H) ∧ ∀ i m σ H, W i m σ H →
      ((Itl K a).stop i H ∧ nx σ H) ∨ ((Itl K a).go i H ∧ ∃ N : L2.St → Hp → Prop, (∀ σ' H', N σ' H' → ∃ m', m' < m ∧ W (i + 1) m' σ' H') ∧ ∀ x H', (Itl K a).yld i H x H' → g x σ H' fun σ2 H2 => tb ⟨N, rt, nx, N⟩ σ2 H2) :=
  ⟨b, rfl, ⟨xs, hs0⟩, for_list (D := ⟨nx, rt, fun _ _ => False, fun _ _ => False⟩) Pv h0 hl hs hd⟩
theorem forR {nx : L2.St → Hp → Prop} {rt : VK} {lo : Int} {n : Nat} {g : TG} {tb : TS} (Pv : Nat → L2.St → Hp → Prop) (h0 : Pv 0 σ H)
    (hs : ∀ (i : Nat) σ H, i < n → Pv i σ H → g (.int (lo + i)) σ H fun σ2 H2 => tb ⟨Pv (i + 1), rt, nx, Pv (i + 1)⟩ σ2 H2) (hd : ∀ σ H, Pv n σ H → nx σ H) :
    ∃ W : Nat → Nat → L2.St → Hp → Prop, (∃ m, W 0 m σ H) ∧ ∀ i m σ H, W i m σ H →
      ((Itr lo n).stop i H ∧ nx σ H) ∨ ((Itr lo n).go i H ∧ ∃ N : L2.St → Hp → Prop, (∀ σ' H', N σ' H' → ∃ m', m' < m ∧ W (i + 1) m' σ' H') ∧ ∀ x H', (Itr lo n).yld i H x H' → g x σ H' fun σ2 H2 => tb ⟨N, rt, nx, N⟩ σ2 H2) :=
  for_range (D := ⟨nx, rt, fun _ _ => False, fun _ _ => False⟩) Pv h0 hs hd
theorem k_while {nx : L2.St → Hp → Prop} {rt : VK} {bk ct : L2.St → Hp → Prop} {c : TT} {tb : TS} (h : ∃ W : Nat → L2.St → Hp → Prop, (∃ m, W m σ H) ∧ ∀ m σ H, W m σ H →
  c σ H fun b H1 => if b = true then ∃ N : L2.St → Hp → Prop, (∀ σ' H', N σ' H' → ∃ m', m' < m ∧ W m' σ' H') ∧ tb ⟨N, rt, nx, N⟩ σ H1 else nx σ H1) : tWhile c tb ⟨nx, rt, bk, ct⟩ σ H := h
theorem whileW {nx : L2.St → Hp → Prop} {rt : VK} {bk ct : L2.St → Hp → Prop} {c : TT} {tb : TS} (W : Nat → L2.St → Hp → Prop) {m0 : Nat} (h0 : W m0 σ H)
    (hs : ∀ m σ H, W m σ H → c σ H fun b H1 => if b = true then tb ⟨fun σ' H' => ∃ m', m' < m ∧ W m' σ' H', rt, nx, fun σ' H' => ∃ m', m' < m ∧ W m' σ' H'⟩ σ H1 else nx σ H1)
    (mono : ∀ σ H (Q Q' : Bool → Hp → Prop), (∀ b H1, Q b H1 → Q' b H1) → c σ H Q → c σ H Q') : tWhile c tb ⟨nx, rt, bk, ct⟩ σ H := by
  refine ⟨W, ⟨m0, h0⟩, fun m σ H w => mono σ H _ _ (fun b H1 q => ?_) (hs m σ H w)⟩
  cases b with
  | true => exact ⟨_, fun σ' H' h => h, q⟩
  | false => exact q
theorem k_iList {R : It → Hp → Prop} (h : te σ H fun x H1 => ∃ a, x = .ref a ∧ (∃ xs, SqL K H1 a xs) ∧ R (Itl K a) H1) : iList K te σ H R := h
theorem k_iTup {R : It → Hp → Prop} (h : te σ H fun x H1 => ∃ a, x = .ref a ∧ (∃ xs, SqT K H1 a xs) ∧ R (Itt K a) H1) : iTup K te σ H R := h
theorem k_iZip {R : It → Hp → Prop} (h : tr σ H fun vs H1 => ∃ a b xs ys, vs = [.ref a, .ref b] ∧ SqL K H1 a xs ∧ SqL K H1 b ys ∧ R (Itz K a b) H1) : iZip K tr σ H R := h
theorem k_iEnum {R : It → Hp → Prop} (h : tr σ H fun vs H1 => ∃ a xs, vs = [.ref a] ∧ SqL K H1 a xs ∧ R (Ite K a) H1) : iEnum K tr σ H R := h
theorem k_iRng1 {R : It → Hp → Prop} (h : tr σ H fun vs H1 => ∃ j : Int, vs = [.int j] ∧ -(2 ^ 62) ≤ j ∧ j < 2 ^ 62 ∧ R (Itr 0 j.toNat) H1) : iRng1 tr σ H R := h
theorem k_iRng2 {R : It → Hp → Prop} (h : tr σ H fun vs H1 => ∃ i j : Int, vs = [.int i, .int j] ∧ (-(2 ^ 62) ≤ i ∧ i < 2 ^ 62 ∧ -(2 ^ 62) ≤ j ∧ j < 2 ^ 62) ∧ R (Itr i (j - i).toNat) H1) : iRng2 tr σ H R := h
theorem k_rj1 {j : Int} {R : Int → Prop} (h1 : -(2 ^ 62) ≤ j) (h2 : j < 2 ^ 62) (h : R j) : ∃ j' : Int, [V.int j] = [.int j'] ∧ -(2 ^ 62) ≤ j' ∧ j' < 2 ^ 62 ∧ R j' := ⟨j, rfl, h1, h2, h⟩
theorem k_rj2 {i j : Int} {R : Int → Int → Prop} (h1 : -(2 ^ 62) ≤ i ∧ i < 2 ^ 62 ∧ -(2 ^ 62) ≤ j ∧ j < 2 ^ 62) (h : R i j) : ∃ i' j' : Int, [V.int i, V.int j] = [.int i', .int j'] ∧ (-(2 ^ 62) ≤ i' ∧ i' < 2 ^ 62 ∧ -(2 ^ 62) ≤ j' ∧ j' < 2 ^ 62) ∧ R i' j' := ⟨i, j, rfl, h1, h⟩
theorem k_it {c A B : Prop} [Decidable c] (h1 : c → A) (h2 : ¬ c → B) : if decide c = true then A else B := by
  by_cases h : c
  · rw [if_pos (decide_eq_true h)]; exact h1 h
  · rw [decide_eq_false h]; exact h2 h
theorem k_itn {c A B : Prop} [Decidable c] (h1 : ¬ c → A) (h2 : c → B) : if (!decide c) = true then A else B := by
  by_cases h : c
  · rw [decide_eq_true h]; exact h2 h
  · rw [decide_eq_false h]; exact h1 h
theorem k_itb {b : Bool} {A B : Prop} (h1 : b = true → A) (h2 : b = false → B) : if b = true then A else B := by
  cases b with
  | true => exact h1 rfl
  | false => exact h2 rfl
theorem k_isi {x : V} {c : String} {tx : String} {b : Bool} (ht : TyX K H x (.type tx)) (hb : kitB tx c = some b) (h : Q (.bl b) H) : rIsi K [x, .ty c] H Q := ⟨x, .ty c, .type tx, .type c, b, rfl, .ty c, ht, kit_ty hb, h⟩

theorem ty_list {p : Addr} {xs : List V} (h : SqL K H p xs) : TyX K H (.ref p) (.type "list") := by
  rcases h with (h | ⟨o, h⟩) | ⟨o, its, n, h, c, _⟩
  · exact .base (.lst h)
  · exact .base (.frz h)
  · exact .kList h c
theorem k_isiL {p : Addr} {xs : List V} (hs : SqL K H p xs) (h : Q (.bl true) H) : rIsi K [.ref p, .ty "list"] H Q := k_isi (ty_list hs) (by decide +kernel) h
theorem k_isiLI {i : Int} (h : Q (.bl false) H) : rIsi K [.int i, .ty "list"] H Q := k_isi (.base (.int i)) (by decide +kernel) h
theorem k_isiI {i : Int} (h : Q (.bl true) H) : rIsi K [.int i, .ty "int"] H Q := k_isi (.base (.int i)) (by decide +kernel) h
theorem k_isiB {i : Int} (h : Q (.bl false) H) : rIsi K [.int i, .ty "bool"] H Q := k_isi (.base (.int i)) (by decide +kernel) h
theorem inV_ints (x : Int) : ∀ ns : List Int, inV (.int x) (ns.map V.int) = decide (x ∈ ns)
  | [] => rfl
  | n :: r => by
    show (eqV (.int n) (.int x) || inV (.int x) (r.map V.int)) = decide (x ∈ n :: r)
    rw [inV_ints x r]
    show ((n == x) || decide (x ∈ r)) = decide (x ∈ n :: r)
    by_cases h : n = x
    · subst h; simp
    · have : (n == x) = false := by simp [h]
      rw [this, Bool.false_or]
      have h' : ¬ x = n := fun e => h e.symm
      simp [h']
theorem flat_ints : ∀ ns : List Int, (ns.map V.int).all flatV = true
  | [] => rfl
  | _ :: r => by show (true && (r.map V.int).all flatV) = true; rw [flat_ints r]; rfl
theorem k_inI {p : Addr} {ns : List Int} {x : Int} (hs : SqL K H p (ns.map V.int)) (h : Q (.bl (decide (x ∈ ns))) H) : rIn K false (.int x) (.ref p) H Q :=
  ⟨p, _, rfl, .inl hs, rfl, flat_ints ns, by rw [if_neg Bool.false_ne_true, inV_ints]; exact h⟩
theorem k_notInI {p : Addr} {ns : List Int} {x : Int} (hs : SqL K H p (ns.map V.int)) (h : Q (.bl (!decide (x ∈ ns))) H) : rIn K true (.int x) (.ref p) H Q :=
  ⟨p, _, rfl, .inl hs, rfl, flat_ints ns, by rw [if_pos rfl, inV_ints]; exact h⟩
theorem k_intB {b : Bool} (h : Q (.int (if b then 1 else 0)) H) : rIntOf [.bl b] H Q := .inr ⟨b, rfl, h⟩
theorem at_int {ns : List Int} {i : Int} (h0 : 0 ≤ i) (h1 : i < ns.length) : atI (ns.map V.int) i = some (.int (ns.getD i.toNat 0)) := by
  obtain ⟨k, rfl⟩ : ∃ k : Nat, i = k := ⟨i.toNat, by omega⟩
  have h : k < ns.length := by omega
  refine atI_nat ?_
  rw [List.getElem?_map]
  simp [List.getElem?_eq_getElem h, List.getD_eq_getElem?_getD]
theorem k_ixI {p : Addr} {ns : List Int} {i : Int} (hs : SqL K H p (ns.map V.int)) (h0 : 0 ≤ i) (h1 : i < ns.length) (h : Q (.int (ns.getD i.toNat 0)) H) : rIxL K (.ref p) (.int i) H Q := k_ixL hs (at_int h0 h1) h
theorem k_eqD {x y : V} {c d : PyData} {n : Nat} (hx : Dp K H x c) (hy : Dp K H y d) (h1 : Sh n c) (h2 : Sh n d) (hn : n ≤ 64) (h : Q (.bl (PyData.eqv c d)) H) : rEqD K x y H Q := ⟨c, d, hx, hy, h1.shaped hn, h2.shaped hn, h⟩
theorem k_neD {x y : V} {c d : PyData} {n : Nat} (hx : Dp K H x c) (hy : Dp K H y d) (h1 : Sh n c) (h2 : Sh n d) (hn : n ≤ 64) (h : Q (.bl (!PyData.eqv c d)) H) : rNeD K x y H Q := ⟨c, d, hx, hy, h1.shaped hn, h2.shaped hn, h⟩
theorem k_neD0 {x y : V} {c : PyData} {n : Nat} (hx : Dp K H x c) (hy : Dp K H y c) (h1 : Sh n c) (hn : n ≤ 64) (h : Q (.bl false) H) : rNeD K x y H Q := k_neD hx hy h1 h1 hn (by rw [h1.refl]; exact h)
theorem k_eqD1 {x y : V} {c : PyData} {n : Nat} (hx : Dp K H x c) (hy : Dp K H y c) (h1 : Sh n c) (hn : n ≤ 64) (h : Q (.bl true) H) : rEqD K x y H Q := k_eqD hx hy h1 h1 hn (by rw [h1.refl]; exact h)
theorem k_getI {p : Addr} {ns : List Int} {i : Int} (hs : SqL K H p (ns.map V.int)) (h0 : 0 ≤ i) (h1 : i < ns.length) (h : Q (.int (ns.getD i.toNat 0)) H) : rGetL K (.ref p) (.int i) H Q := ⟨p, _, i, _, rfl, rfl, hs, h0, at_int h0 h1, h⟩
theorem k_setI {p : Addr} {ns : List Int} {k v : Int} {QH : Hp → Prop} (hp : H p = some (.lst (ns.map V.int))) (h0 : 0 ≤ k) (h1 : k < ns.length) (h : QH (upd H p (.lst ((ns.set k.toNat v).map V.int)))) : rSetL (.ref p) (.int k) (.int v) H QH :=
  ⟨p, _, k, k.toNat, rfl, rfl, hp, ixN_of h0 (by rw [List.length_map]; exact h1), by rw [List.map_set] at h; exact h⟩
theorem k_rep {p : Addr} {xs : List V} {k : Int} (hp : H p = some (.lst xs)) (h0 : 0 ≤ k) (h1 : k < 100000) (h2 : xs.length * k.toNat ≤ 100000) (h : ∀ l, H l = none → Q (.ref l) (upd H l (.lst (List.replicate k.toNat xs).flatten))) : rRep (.ref p) (.int k) H Q := ⟨p, k, xs, rfl, rfl, hp, by omega, by omega, sz h2, h⟩
theorem k_eqB {a b : Bool} (h : Q (.bl (decide (a = b))) H) : rEq (.bl a) (.bl b) H Q := ⟨rfl, by
  have e : decide (V.bl a = V.bl b) = decide (a = b) := by cases a <;> cases b <;> decide
  rw [e]; exact h⟩
theorem k_neB {a b : Bool} (h : Q (.bl (!decide (a = b))) H) : rNe (.bl a) (.bl b) H Q := ⟨rfl, by
  have e : decide (V.bl a = V.bl b) = decide (a = b) := by cases a <;> cases b <;> decide
  rw [e]; exact h⟩
/-- new objects, the heap behind as a letter -/
theorem k_newL {xs : List V} (hn : xs.length ≤ 100000) (h : ∀ p H', H p = none → Same H H' → H' p = some (.lst xs) → Q (.ref p) H') : xs.length ≤ sizeLine ∧ ∀ p, H p = none → Q (.ref p) (upd H p (.lst xs)) :=
  ⟨sz hn, fun p np => h p _ np (same_new np) upd_same⟩
theorem k_newT {xs : List V} (hn : xs.length ≤ 100000) (h : ∀ p H', H p = none → Same H H' → H' p = some (.tup xs) → Q (.ref p) H') : xs.length ≤ sizeLine ∧ ∀ p, H p = none → Q (.ref p) (upd H p (.tup xs)) :=
  ⟨sz hn, fun p np => h p _ np (same_new np) upd_same⟩
theorem k_listN {p : Addr} {ys : List V} (hs : SqL K H p ys) (h : ∀ l H', H l = none → Same H H' → H' l = some (.lst ys) → Q (.ref l) H') : rListOf K [.ref p] H Q := k_list hs fun l nl => h l _ nl (same_new nl) upd_same
theorem k_slL {a : Addr} {xs : List V} {lo hi : Option Int} (hs : SqL K H a xs) (h : ∀ p H', H p = none → Same H H' → H' p = some (.lst (cutV xs lo hi)) → Q (.ref p) H') : rSlL K (.ref a) lo hi H Q := ⟨a, xs, rfl, hs, fun p np => h p _ np (same_new np) upd_same⟩
theorem k_sl {r : V → Option Int → Option Int → Hp → VK → Prop} {tl th : TO} (h : te σ H fun x H1 => tl σ H1 fun l H2 => th σ H2 fun u H3 => r x l u H3 Q) : tSl r te tl th σ H Q := h
theorem k_nopart {QO : Option Int → Hp → Prop} (h : QO none H) : tNoPart σ H QO := h
theorem k_part {QO : Option Int → Hp → Prop} (h : te σ H fun x H1 => ∃ i, x = .int i ∧ QO (some i) H1) : tPart te σ H QO := h
theorem k_int {i : Int} {R : Int → Prop} (h : R i) : ∃ j, V.int i = .int j ∧ R j := ⟨i, rfl, h⟩
theorem rg_ints (a b : Int) : rgV a b = ((List.range (b - a).toNat).map fun i => a + (i : Nat)).map V.int := by
  unfold rgV; rw [List.map_map]; rfl
theorem k_listRg {tg : L2.St → Hp → (Int → Int → Hp → Prop) → Prop} (h : tg σ H fun a b H1 => RgOk a b ∧ ∀ q, H1 q = none → Q (.ref q) (upd H1 q (.lst (rgV a b)))) : tLstRg tg σ H Q := h
theorem k_rg1 {QR : Int → Int → Hp → Prop} (h : ta σ H fun x H1 => ∃ n, x = .int n ∧ QR 0 n H1) : tRg1 ta σ H QR := h
theorem k_rg2 {QR : Int → Int → Hp → Prop} (h : ta σ H fun x H1 => tb σ H1 fun y H2 => ∃ i j, x = .int i ∧ y = .int j ∧ QR i j H2) : tRg2 ta tb σ H QR := h
theorem k_int2 {i j : Int} {R : Int → Int → Prop} (h : R i j) : ∃ i' j', V.int i = .int i' ∧ V.int j = .int j' ∧ R i' j' := ⟨i, j, rfl, rfl, h⟩
theorem k_rgN {a b : Int} (hr : RgOk a b) (h : ∀ p H', H p = none → Same H H' → H' p = some (.lst (rgV a b)) → Q (.ref p) H') : RgOk a b ∧ ∀ q, H q = none → Q (.ref q) (upd H q (.lst (rgV a b))) := ⟨hr, fun q nq => h q _ nq (same_new nq) upd_same⟩
theorem dp_of_int {i j : Int} (e : i = j) : Dp K H (.int i) (.int j) := e ▸ .int i
end
/-! ### heaps with some places out of sight -/
def hid (S : List Addr) (H : Hp) : Hp := fun b => if b ∈ S then none else H b
theorem hid_ne {S : List Addr} {H : Hp} {b : Addr} (h : b ∉ S) : hid S H b = H b := if_neg h
theorem hid_in {S : List Addr} {H : Hp} {b : Addr} (h : b ∈ S) : hid S H b = none := if_pos h
theorem hid_some {S : List Addr} {H : Hp} {b : Addr} {o : HO} (h : hid S H b = some o) : b ∉ S ∧ H b = some o := by
  unfold hid at h
  split at h
  · cases h
  · exact ⟨by assumption, h⟩
theorem hid_same (S : List Addr) (H : Hp) : Same (hid S H) H := fun b o h => (hid_some h).2
theorem hid_mono {S : List Addr} {H H' : Hp} (e : Same H H') : Same (hid S H) (hid S H') := fun b o h => by
  obtain ⟨n, h⟩ := hid_some h
  rw [hid_ne n]
  exact e b o h
theorem hid_sub {S S' : List Addr} {H : Hp} (h : ∀ a ∈ S, a ∈ S') : Same (hid S' H) (hid S H) := fun b o e => by
  obtain ⟨n, e⟩ := hid_some e
  rw [hid_ne fun z => n (h b z)]
  exact e
/-- a change at a hidden place -/
theorem hid_upd {S : List Addr} {H : Hp} {p : Addr} {o : HO} (h : p ∈ S) : hid S (upd H p o) = hid S H := by
  funext b
  unfold hid
  split
  · rfl
  · rename_i n
    rw [upd_ne fun e => n (by rw [e]; exact h)]
theorem same_hid_upd {S : List Addr} {H0 H : Hp} {p : Addr} {o : HO} (e : Same H0 (hid S H)) (h : p ∈ S) : Same H0 (hid S (upd H p o)) := by rw [hid_upd h]; exact e
/-- what the law's data says stays when a fresh object is changed -/
theorem same_hid_mut {S : List Addr} {H0 H : Hp} {p : Addr} {o : HO} (e : Same H0 (hid S H)) (h : H0 p = none) : Same H0 (hid S (upd H p o)) := fun b u hb => by
  have := e b u hb
  obtain ⟨n, q⟩ := hid_some this
  rw [hid_ne n, upd_ne (ne_of_none hb h)]
  exact q
theorem hid_more {S S' : List Addr} {H H' : Hp} (e : Same (hid S H) (hid S H')) (h : ∀ a ∈ S, a ∈ S') : Same (hid S' H) (hid S' H') := fun b o hb => by
  obtain ⟨n, q⟩ := hid_some hb
  have n' : b ∉ S := fun z => n (h b z)
  have := e b o (by rw [hid_ne n']; exact q)
  rw [hid_ne n'] at this
  rw [hid_ne n]
  exact this
theorem same_hid_new {S : List Addr} {H : Hp} {p : Addr} {o : HO} (h : H p = none) : Same (hid S H) (hid S (upd H p o)) := hid_mono (same_new h)

theorem same_of_hid {S : List Addr} {H0 H1 H2 : Hp} (h : Same H0 H1) (f : ∀ a ∈ S, H0 a = none) (e : Same (hid S H1) (hid S H2)) : Same H0 H2 := fun b o hb => by
  have n : b ∉ S := fun z => by rw [f b z] at hb; cases hb
  have := e b o (by rw [hid_ne n]; exact h b o hb)
  rw [hid_ne n] at this
  exact this
theorem free1 {H0 : Hp} {p : Addr} (h : H0 p = none) : ∀ a ∈ [p], H0 a = none := fun a z => by rw [List.mem_singleton.mp z]; exact h
theorem cutTo {ns : List Int} (k : Nat) : cutV (ns.map V.int) none (some (k : Int)) = (ns.take k).map V.int := by
  unfold cutV
  rw [HT.sIx_none, HT.sIx_nat, List.drop_zero, List.length_map, Nat.sub_zero, List.map_take]
  by_cases h : k ≤ ns.length
  · rw [Nat.min_eq_left h]
  · rw [Nat.min_eq_right (by omega), List.take_of_length_le (by simp), List.take_of_length_le (by simp; omega)]
/-! ### the law's purse: a list of the cells and the turn -/
structure Pu (H : Hp) (pu ce : Addr) (n : Nat) (t : Int) : Prop where
  hp : H pu = some (.lst [.ref ce, .int t])
  hc : ∃ cs : List Int, cs.length = n ∧ H ce = some (.lst (cs.map V.int))
  n0 : 0 < n
  n1 : n ≤ 63
  t0 : 0 ≤ t
theorem Pu.ne {H : Hp} {pu ce : Addr} {n : Nat} {t : Int} (h : Pu H pu ce n t) : pu ≠ ce := fun e => by
  obtain ⟨cs, hl, hc⟩ := h.hc
  have hp := h.hp
  rw [e, hc] at hp
  cases cs with
  | nil => injection hp with hp; injection hp with hp; cases hp
  | cons x r => injection hp with hp; injection hp with hp; injection hp with h1 h2; cases h1
theorem Pu.fresh {H : Hp} {pu ce : Addr} {n : Nat} {t : Int} (h : Pu H pu ce n t) {p : Addr} (np : H p = none) : p ∉ [pu, ce] := fun z => by
  obtain ⟨cs, hl, hc⟩ := h.hc
  rcases List.mem_cons.mp z with rfl | z
  · rw [h.hp] at np; cases np
  · rcases List.mem_cons.mp z with rfl | z
    · rw [hc] at np; cases np
    · cases z
theorem Pu.upd {H : Hp} {pu ce : Addr} {n : Nat} {t : Int} (h : Pu H pu ce n t) {p : Addr} {o : HO} (np : p ∉ [pu, ce]) : Pu (upd H p o) pu ce n t := by
  have h1 : pu ≠ p := fun e => np (by rw [e]; exact List.mem_cons_self)
  have h2 : ce ≠ p := fun e => np (by rw [e]; exact List.mem_cons_of_mem _ List.mem_cons_self)
  obtain ⟨cs, hl, hc⟩ := h.hc
  exact ⟨by rw [upd_ne h1]; exact h.hp, ⟨cs, hl, by rw [upd_ne h2]; exact hc⟩, h.n0, h.n1, h.t0⟩
theorem Pu.same {H H' : Hp} {pu ce : Addr} {n : Nat} {t : Int} (h : Pu H pu ce n t) (e : Same H H') : Pu H' pu ce n t := by
  obtain ⟨cs, hl, hc⟩ := h.hc
  exact ⟨e _ _ h.hp, ⟨cs, hl, e _ _ hc⟩, h.n0, h.n1, h.t0⟩
/-- an object that is none of the purse's stays as it is -/
theorem keeps {S : List Addr} {H H' : Hp} (e : Same (hid S H) (hid S H')) {b : Addr} {o : HO} (hb : H b = some o) (n : b ∉ S) : H' b = some o := by
  have := e b o (by rw [hid_ne n]; exact hb)
  rw [hid_ne n] at this
  exact this
theorem fresh_hid {S : List Addr} {H H' : Hp} (e : Same (hid S H) (hid S H')) {b : Addr} (hb : H' b = none) (n : b ∉ S) : H b = none := by
  have := e.free (l := b) (by rw [hid_ne n]; exact hb)
  rw [hid_ne n] at this
  exact this
theorem getD_set_len {α : Type} (l : List α) (i : Nat) (v : α) : (l.set i v).length = l.length := List.length_set
theorem map_set_int (cs : List Int) (i : Nat) (v : Int) : (cs.map V.int).set i (.int v) = (cs.set i v).map V.int := by rw [List.map_set]

/-! ### the law's other purse: [a number, a mark, how many were drawn] -/
structure Le (H : Hp) (pu : Addr) (k : Int) : Prop where
  hp : ∃ x f : Int, H pu = some (.lst [.int x, .int f, .int k]) ∧ (f = 0 → 0 ≤ x ∧ x < 2147483629)
  k0 : 0 ≤ k
theorem Le.fresh {H : Hp} {pu : Addr} {k : Int} (h : Le H pu k) {p : Addr} (np : H p = none) : p ∉ [pu] := fun z => by
  obtain ⟨x, f, hp, _⟩ := h.hp
  rw [List.mem_singleton.mp z, hp] at np
  cases np
theorem Le.upd {H : Hp} {pu : Addr} {k : Int} (h : Le H pu k) {p : Addr} {o : HO} (np : p ∉ [pu]) : Le (upd H p o) pu k := by
  obtain ⟨x, f, hp, hx⟩ := h.hp
  exact ⟨⟨x, f, by rw [upd_ne fun e => np (by rw [e]; exact List.mem_singleton.mpr rfl)]; exact hp, hx⟩, h.k0⟩
theorem Le.same {H H' : Hp} {pu : Addr} {k : Int} (h : Le H pu k) (e : Same H H') : Le H' pu k := by
  obtain ⟨x, f, hp, hx⟩ := h.hp
  exact ⟨⟨x, f, e _ _ hp, hx⟩, h.k0⟩

/-! ### comprehensions whose block leaves the heap as it is -/
section
variable {K : PySem.W.Frag} {σ : L2.St} {H1 : Hp} {Q : VK} {g : TG} {tt : TT} {te : TE} {vs : List Nat}
theorem k_lc {wi : TI} (h : wi σ H1 fun J H1 => ∀ D, H1 D = none → ∃ W : Nat → Nat → Hp → Prop, (∃ m, W 0 m (upd H1 D (.lst []))) ∧ ∀ i m H, W i m H →
  (J.stop i H ∧ Q (.ref D) H) ∨ (J.go i H ∧ ∃ Nx : Hp → Prop, (∀ H', Nx H' → ∃ m', m' < m ∧ W (i + 1) m' H') ∧ ∀ x H', J.yld i H x H' → g x (wipe σ vs) H' fun σ2 H2 => wipe σ2 vs = wipe σ vs ∧ tt σ2 H2 fun b H3 =>
    if b = true then te σ2 H3 fun y H4 => ∃ acc, H4 D = some (.lst acc) ∧ acc.length < sizeLine ∧ Nx (upd H4 D (.lst (acc ++ [y]))) else Nx H3)) : tLc wi g tt te vs σ H1 Q := h
theorem k_wipe {σ' : L2.St} {R : Prop} (e : wipe σ' vs = wipe σ vs) (h : R) : wipe σ' vs = wipe σ vs ∧ R := ⟨e, h⟩
theorem k_yes {QT : Bool → Hp → Prop} (h : QT true H1) : tYes σ H1 QT := h
theorem take_filterMap {α β : Type} {f : α → Option β} {ps : List α} {i : Nat} {p : α} (h : ps[i]? = some p) : (ps.take (i + 1)).filterMap f = (ps.take i).filterMap f ++ (f p).toList := by
  rw [List.take_add_one, h, List.filterMap_append]
  simp [List.filterMap_cons]
  cases f p <;> rfl
/-- over a list of which ps tells the items -/
theorem lc_pure {QD : Addr → Hp → Prop} {α : Type} {a : Addr} {xs : List V} (hs : SqL K H1 a xs) (ps : List α) (hl : xs.length = ps.length) (hz : ps.length ≤ 50000) (f : α → Option V)
    (step : ∀ (i : Nat) x p H', xs[i]? = some x → ps[i]? = some p → Same H1 H' → ∀ (R : V → Hp → Prop) (R0 : Hp → Prop), (∀ y, f p = some y → R y H') → (f p = none → R0 H') →
      g x (wipe σ vs) H' fun σ2 H2 => wipe σ2 vs = wipe σ vs ∧ tt σ2 H2 fun b H3 => if b = true then te σ2 H3 R else R0 H3)
    (h : ∀ D H', H1 D = none → Same H1 H' → H' D = some (.lst (ps.filterMap f)) → QD D H') :
    ∃ a', V.ref a = .ref a' ∧ (∃ xs, SqL K H1 a' xs) ∧ ∀ D, H1 D = none → ∃ W : Nat → Nat → Hp → Prop, (∃ m, W 0 m (upd H1 D (.lst []))) ∧ ∀ i m H, W i m H →
      ((Itl K a').stop i H ∧ QD D H) ∨ ((Itl K a').go i H ∧ ∃ Nx : Hp → Prop, (∀ H', Nx H' → ∃ m', m' < m ∧ W (i + 1) m' H') ∧ ∀ x H', (Itl K a').yld i H x H' → g x (wipe σ vs) H' fun σ2 H2 => wipe σ2 vs = wipe σ vs ∧ tt σ2 H2 fun b H3 =>
        if b = true then te σ2 H3 fun y H4 => ∃ acc, H4 D = some (.lst acc) ∧ acc.length < sizeLine ∧ Nx (upd H4 D (.lst (acc ++ [y]))) else Nx H3) := by
  refine ⟨a, rfl, ⟨xs, hs⟩, fun D nD => lc_list (xs := xs) (fun i H => Same H1 H ∧ H D = some (.lst ((ps.take i).filterMap f))) ⟨same_new nD, by rw [upd_same]; simp⟩ (fun i H _ e => e.1.seq hs) ?_ ?_⟩
  · rintro i x H hx ⟨sm, hD⟩
    have hi : i < xs.length := (List.getElem?_eq_some_iff.mp hx).1
    obtain ⟨p, hp⟩ : ∃ p, ps[i]? = some p := ⟨ps[i]'(by omega), List.getElem?_eq_getElem (by omega)⟩
    have tk := take_filterMap (f := f) hp
    refine step i x p H hx hp sm _ _ (fun y hy => ⟨_, hD, szl ?_, same_mut sm nD, ?_⟩) (fun hn => ⟨sm, ?_⟩)
    · have := List.length_filterMap_le f (ps.take i)
      rw [List.length_take] at this
      omega
    · rw [upd_same, tk, hy]; rfl
    · rw [tk, hn, hD]; simp
  · rintro H ⟨sm, hD⟩
    rw [hl, List.take_length] at hD
    exact h D H nD sm hD
/-- the same where a turn may make new objects -/
theorem lc_grow {QD : Addr → Hp → Prop} {α : Type} {a : Addr} {xs : List V} (hs : SqL K H1 a xs) (ps : List α) (hl : xs.length = ps.length) (hz : ps.length ≤ 50000) (f : α → Option V)
    (step : ∀ (i : Nat) x p H', xs[i]? = some x → ps[i]? = some p → Same H1 H' → ∀ (R : V → Hp → Prop) (R0 : Hp → Prop), (∀ y H'', f p = some y → Same H' H'' → R y H'') → (∀ H'', f p = none → Same H' H'' → R0 H'') →
      g x (wipe σ vs) H' fun σ2 H2 => wipe σ2 vs = wipe σ vs ∧ tt σ2 H2 fun b H3 => if b = true then te σ2 H3 R else R0 H3)
    (h : ∀ D H', H1 D = none → Same H1 H' → H' D = some (.lst (ps.filterMap f)) → QD D H') :
    ∃ a', V.ref a = .ref a' ∧ (∃ xs, SqL K H1 a' xs) ∧ ∀ D, H1 D = none → ∃ W : Nat → Nat → Hp → Prop, (∃ m, W 0 m (upd H1 D (.lst []))) ∧ ∀ i m H, W i m H →
      ((Itl K a').stop i H ∧ QD D H) ∨ ((Itl K a').go i H ∧ ∃ Nx : Hp → Prop, (∀ H', Nx H' → ∃ m', m' < m ∧ W (i + 1) m' H') ∧ ∀ x H', (Itl K a').yld i H x H' → g x (wipe σ vs) H' fun σ2 H2 => wipe σ2 vs = wipe σ vs ∧ tt σ2 H2 fun b H3 =>
        if b = true then te σ2 H3 fun y H4 => ∃ acc, H4 D = some (.lst acc) ∧ acc.length < sizeLine ∧ Nx (upd H4 D (.lst (acc ++ [y]))) else Nx H3) := by
  refine ⟨a, rfl, ⟨xs, hs⟩, fun D nD => lc_list (xs := xs) (fun i H => Same H1 H ∧ H D = some (.lst ((ps.take i).filterMap f))) ⟨same_new nD, by rw [upd_same]; simp⟩ (fun i H _ e => e.1.seq hs) ?_ ?_⟩
  · rintro i x H hx ⟨sm, hD⟩
    have hi : i < xs.length := (List.getElem?_eq_some_iff.mp hx).1
    obtain ⟨p, hp⟩ : ∃ p, ps[i]? = some p := ⟨ps[i]'(by omega), List.getElem?_eq_getElem (by omega)⟩
    have tk := take_filterMap (f := f) hp
    refine step i x p H hx hp sm _ _ (fun y H'' hy s2 => ⟨_, s2 _ _ hD, szl ?_, same_mut (sm.trans s2) nD, ?_⟩) (fun H'' hn s2 => ⟨sm.trans s2, ?_⟩)
    · have := List.length_filterMap_le f (ps.take i)
      rw [List.length_take] at this
      omega
    · rw [upd_same, tk, hy]; rfl
    · rw [tk, hn, s2 _ _ hD]; simp
  · rintro H ⟨sm, hD⟩
    rw [hl, List.take_length] at hD
    exact h D H nD sm hD
theorem range_take {n i : Nat} (h : i < n) : (List.range n)[i]? = some i := by simp [h]
/-- over a range -/
theorem lc_pureR {QD : Addr → Hp → Prop} {lo : Int} {n : Nat} (hz : n ≤ 50000) (f : Nat → Option V)
    (step : ∀ (i : Nat) H', i < n → Same H1 H' → ∀ (R : V → Hp → Prop) (R0 : Hp → Prop), (∀ y, f i = some y → R y H') → (f i = none → R0 H') →
      g (.int (lo + (i : Nat))) (wipe σ vs) H' fun σ2 H2 => wipe σ2 vs = wipe σ vs ∧ tt σ2 H2 fun b H3 => if b = true then te σ2 H3 R else R0 H3)
    (h : ∀ D H', H1 D = none → Same H1 H' → H' D = some (.lst ((List.range n).filterMap f)) → QD D H') :
    ∀ D, H1 D = none → ∃ W : Nat → Nat → Hp → Prop, (∃ m, W 0 m (upd H1 D (.lst []))) ∧ ∀ i m H, W i m H →
      ((Itr lo n).stop i H ∧ QD D H) ∨ ((Itr lo n).go i H ∧ ∃ Nx : Hp → Prop, (∀ H', Nx H' → ∃ m', m' < m ∧ W (i + 1) m' H') ∧ ∀ x H', (Itr lo n).yld i H x H' → g x (wipe σ vs) H' fun σ2 H2 => wipe σ2 vs = wipe σ vs ∧ tt σ2 H2 fun b H3 =>
        if b = true then te σ2 H3 fun y H4 => ∃ acc, H4 D = some (.lst acc) ∧ acc.length < sizeLine ∧ Nx (upd H4 D (.lst (acc ++ [y]))) else Nx H3) := by
  refine fun D nD => lc_range (fun i H => Same H1 H ∧ H D = some (.lst (((List.range n).take i).filterMap f))) ⟨same_new nD, by rw [upd_same]; simp⟩ ?_ ?_
  · rintro i H hi ⟨sm, hD⟩
    have tk := take_filterMap (f := f) (range_take hi)
    refine step i H hi sm _ _ (fun y hy => ⟨_, hD, szl ?_, same_mut sm nD, ?_⟩) (fun hn => ⟨sm, ?_⟩)
    · have := List.length_filterMap_le f ((List.range n).take i)
      rw [List.length_take, List.length_range] at this
      omega
    · rw [upd_same, tk, hy]; rfl
    · rw [tk, hn, hD]; simp
  · rintro H ⟨sm, hD⟩
    rw [List.take_of_length_le (by simp)] at hD
    exact h D H nD sm hD
end
/-! ### min, max of a pair -/
def rMinT (K : PySem.W.Frag) : List V → Hp → VK → Prop := fun xs H Q => ∃ (p : Addr) (a b : Int), xs = [.ref p] ∧ SqT K H p [.int a, .int b] ∧ Q (.int (min a b)) H
def rMaxT (K : PySem.W.Frag) : List V → Hp → VK → Prop := fun xs H Q => ∃ (p : Addr) (a b : Int), xs = [.ref p] ∧ SqT K H p [.int a, .int b] ∧ Q (.int (max a b)) H
theorem reads_int {h : Heap} {v : Value} {n : Int} {as : List Addr} (r : Reads h v (.int n) as) : ∃ t, v = .int n t := by
  cases r; exact ⟨_, rfl⟩
theorem alike2 (a b : Int) : PySem.W.AlikeAll [.int a, .int b] := by
  refine ⟨fun x hx y hy => ?_, fun x hx => ?_⟩
  · simp only [List.mem_cons, List.not_mem_nil, or_false] at hx hy
    rcases hx with rfl | rfl <;> rcases hy with rfl | rfl <;> rfl
  · simp only [List.mem_cons, List.not_mem_nil, or_false] at hx
    rcases hx with rfl | rfl <;> (intro z; cases z)
theorem q_minT {X : Cx} (hc : X.calm = true) (hu : X.A.units + 64 < cLine) : CallR X (.builtin "min") (rMinT X.K) := by
  intro pins s σ H vs us Q I r h
  obtain ⟨p, a, b, rfl, hs, q⟩ := h
  obtain ⟨its, rv, hl, _⟩ := I.tuple hs
  rw [Vals.ref1 r]
  have ri : IntsAre its [a, b] := Vals.ints (ns := [a, b]) rv
  refine PySem.W.min_tuple_data (x := .int a) (xs := [.int b]) (as := []) (I.ok.hd hc) hl (ri.reads _) (alike2 a b) ?_ fun i v h' tk bs hi rd hk => ?_
  · have : PyData.depthAll [.int a, .int b] = 0 := rfl
    omega
  · rw [show PySem.W.minD (.int a) [.int b] = .int (min a b) from PySem.W.minD_ints a [b]] at rd
    obtain ⟨t, rfl⟩ := reads_int rd
    exact ⟨.int _, H, I.kept hk, ⟨_, rfl⟩, q⟩
theorem q_maxT {X : Cx} (hc : X.calm = true) (hu : X.A.units + 64 < cLine) : CallR X (.builtin "max") (rMaxT X.K) := by
  intro pins s σ H vs us Q I r h
  obtain ⟨p, a, b, rfl, hs, q⟩ := h
  obtain ⟨its, rv, hl, _⟩ := I.tuple hs
  rw [Vals.ref1 r]
  have ri : IntsAre its [a, b] := Vals.ints (ns := [a, b]) rv
  refine PySem.W.max_tuple_data (x := .int a) (xs := [.int b]) (as := []) (I.ok.hd hc) hl (ri.reads _) (alike2 a b) ?_ fun i v h' tk bs hi rd hk => ?_
  · have : PyData.depthAll [.int a, .int b] = 0 := rfl
    omega
  · rw [show PySem.W.maxD (.int a) [.int b] = .int (max a b) from PySem.W.maxD_ints a [b]] at rd
    obtain ⟨t, rfl⟩ := reads_int rd
    exact ⟨.int _, H, I.kept hk, ⟨_, rfl⟩, q⟩
theorem k_minT {K : PySem.W.Frag} {H : Hp} {Q : VK} {p : Addr} {a b : Int} (hs : SqT K H p [.int a, .int b]) (h : Q (.int (min a b)) H) : rMinT K [.ref p] H Q := ⟨p, a, b, rfl, hs, h⟩
theorem k_maxT {K : PySem.W.Frag} {H : Hp} {Q : VK} {p : Addr} {a b : Int} (hs : SqT K H p [.int a, .int b]) (h : Q (.int (max a b)) H) : rMaxT K [.ref p] H Q := ⟨p, a, b, rfl, hs, h⟩
end Cm

namespace Cm
open PySem PySem.Spec PyProof.Rows L2
/-! ### steps of a reading, found by instances -/
class Stp (p : Prop) (q : outParam Prop) : Prop where
  run : q → p
class Stps (p : Prop) (q : outParam Prop) : Prop where
  run : q → p
class Stps1 (p : Prop) (q : outParam Prop) : Prop where
  run : q → p
instance (priority := low) stps_nil {p : Prop} : Stps p p := ⟨id⟩
instance (priority := high) stps_cons {p q r : Prop} [a : Stp p q] [b : Stps q r] : Stps p r := ⟨fun h => a.run (b.run h)⟩
instance stps_one {p q r : Prop} [a : Stp p q] [b : Stps q r] : Stps1 p r := ⟨fun h => a.run (b.run h)⟩
theorem go {p q : Prop} [a : Stps1 p q] (h : q) : p := a.run h
class Slot (σ : L2.St) (i : Nat) (v : outParam V) : Prop where
  get : σ[i]? = some (some v)
instance {v : V} {r : L2.St} : Slot (some v :: r) 0 v := ⟨rfl⟩
instance {x : Option V} {v : V} {r : L2.St} {i : Nat} [a : Slot r i v] : Slot (x :: r) (i + 1) v := ⟨a.get⟩
class Put (σ : L2.St) (i : Nat) (v : Option V) (σ' : outParam L2.St) : Prop where
  eq : σ.set i v = σ'
instance {x v : Option V} {r : L2.St} : Put (x :: r) 0 v (v :: r) := ⟨rfl⟩
instance {x v : Option V} {r r' : L2.St} {i : Nat} [a : Put r i v r'] : Put (x :: r) (i + 1) v (x :: r') := ⟨by rw [List.set_cons_succ, a.eq]⟩
instance {σ σ0 σ' : L2.St} {j : Nat} {w : Option V} {i : Nat} {v : Option V} [a : Put σ j w σ0] [b : Put σ0 i v σ'] : Put (List.set σ j w) i v σ' := ⟨by rw [a.eq, b.eq]⟩
instance {σ σ0 : L2.St} {j : Nat} {w : Option V} {i : Nat} {v : V} [a : Put σ j w σ0] [b : Slot σ0 i v] : Slot (List.set σ j w) i v := ⟨by rw [a.eq, b.get]⟩
class Wip (σ : L2.St) (vs : List Nat) (σ' : outParam L2.St) : Prop where
  eq : wipe σ vs = σ'
instance {σ : L2.St} : Wip σ [] σ := ⟨rfl⟩
instance {σ σ' σ'' : L2.St} {i : Nat} {vs : List Nat} [b : Wip σ vs σ'] [a : Put σ' i none σ''] : Wip σ (i :: vs) σ'' := ⟨by
  show (wipe σ vs).set i none = σ''
  rw [b.eq, a.eq]⟩
instance {σ σ0 σ' : L2.St} {vs : List Nat} {i : Nat} {v : Option V} [a : Wip σ vs σ0] [b : Put σ0 i v σ'] : Put (wipe σ vs) i v σ' := ⟨by rw [a.eq, b.eq]⟩
/-- a new list, a new tuple -/
def newL (xs : List V) (H : Hp) (Q : VK) : Prop := xs.length ≤ sizeLine ∧ ∀ p, H p = none → Q (.ref p) (upd H p (.lst xs))
def newT (xs : List V) (H : Hp) (Q : VK) : Prop := xs.length ≤ sizeLine ∧ ∀ p, H p = none → Q (.ref p) (upd H p (.tup xs))
def newR (a b : Int) (H : Hp) (Q : VK) : Prop := RgOk a b ∧ ∀ q, H q = none → Q (.ref q) (upd H q (.lst (rgV a b)))
theorem kL {xs : List V} {H : Hp} {Q : VK} (hn : xs.length ≤ 100000) (h : ∀ p H', H p = none → Same H H' → H' p = some (.lst xs) → Q (.ref p) H') : newL xs H Q := ⟨sz hn, fun p np => h p _ np (same_new np) upd_same⟩
theorem kT {xs : List V} {H : Hp} {Q : VK} (hn : xs.length ≤ 100000) (h : ∀ p H', H p = none → Same H H' → H' p = some (.tup xs) → Q (.ref p) H') : newT xs H Q := ⟨sz hn, fun p np => h p _ np (same_new np) upd_same⟩
theorem kR {a b : Int} {H : Hp} {Q : VK} (hr : RgOk a b) (h : ∀ p H', H p = none → Same H H' → H' p = some (.lst (rgV a b)) → Q (.ref p) H') : newR a b H Q := ⟨hr, fun q nq => h q _ nq (same_new nq) upd_same⟩
section
variable {K : PySem.W.Frag} {σ σ' : L2.St} {H : Hp} {D : Ends} {Q : VK} {ta tb tc te to ti : TE} {t u : TT} {s1 s2 : TS} {QT : Bool → Hp → Prop} {QA : List V → Hp → Prop} {tr : TA} {QS : L2.St → Hp → Prop} {nx bk ct : L2.St → Hp → Prop} {rt : VK} {g : TG} {gs : TGs} {i j : Nat} {v w : V} {a b : Int} {wi : TI} {tS : TS}
instance : Stp (tSeq s1 s2 ⟨nx, rt, bk, ct⟩ σ H) (s1 ⟨s2 ⟨nx, rt, bk, ct⟩, rt, bk, ct⟩ σ H) := ⟨k_seq⟩
instance : Stp (tNext ⟨nx, rt, bk, ct⟩ σ H) (nx σ H) := ⟨k_next⟩
instance : Stp (tCont ⟨nx, rt, bk, ct⟩ σ H) (ct σ H) := ⟨k_cont⟩
instance : Stp (tBreak ⟨nx, rt, bk, ct⟩ σ H) (bk σ H) := ⟨k_brk⟩
instance : Stp (tAsg te g ⟨nx, rt, bk, ct⟩ σ H) (te σ H fun x H1 => g x σ H1 nx) := ⟨k_asg⟩
instance : Stp (tDrop te ⟨nx, rt, bk, ct⟩ σ H) (te σ H fun _ H1 => nx σ H1) := ⟨k_drop⟩
instance : Stp (tRet te ⟨nx, rt, bk, ct⟩ σ H) (te σ H rt) := ⟨k_ret⟩
instance : Stp (tRetN ⟨nx, rt, bk, ct⟩ σ H) (rt .non H) := ⟨k_retN⟩
instance {f : Int → Int → Int} [e : Slot σ i (.int a)] : Stp (tAug i te (ipI f) ⟨nx, rt, bk, ct⟩ σ H) (te σ H fun y H1 => ipI f (.int a) y H1 fun z H2 => gName i z σ H2 nx) := ⟨fun h => k_aug e.get h⟩
instance {f : Int → Int → Int} : Stp (ipI f (.int a) (.int b) H Q) (Q (.int (f a b)) H) := ⟨k_ipI⟩
instance : Stp (xAugL K to ti te ⟨nx, rt, bk, ct⟩ σ H) (to σ H fun o H1 => ti σ H1 fun i H2 => rGetL K o i H2 fun x H3 => te σ H3 fun y H4 => ipI (fun i j => i + j) x y H4 fun z H5 => rSetL o i z H5 fun H6 => nx σ H6) := ⟨k_augL⟩
instance : Stp (tIfS t s1 s2 D σ H) (t σ H fun b H1 => if b = true then s1 D σ H1 else s2 D σ H1) := ⟨k_if⟩
instance [e : Slot σ i v] : Stp (tVar i σ H Q) (Q v H) := ⟨fun h => k_var e.get h⟩
instance : Stp (tC v σ H Q) (Q v H) := ⟨k_c⟩
instance {r : R2} : Stp (tOp r ta tb σ H Q) (ta σ H fun x H1 => tb σ H1 fun y H2 => r x y H2 Q) := ⟨k_op⟩
instance {r : V → Hp → VK → Prop} : Stp (tUn r ta σ H Q) (ta σ H fun x H1 => r x H1 Q) := ⟨k_un⟩
instance : Stp (xAdd (.int a) (.int b) H Q) (Q (.int (a + b)) H) := ⟨k_add⟩
instance : Stp (xSub (.int a) (.int b) H Q) (Q (.int (a - b)) H) := ⟨k_sub⟩
instance : Stp (xLt (.int a) (.int b) H Q) (Q (.bl (decide (a < b))) H) := ⟨k_lt⟩
instance : Stp (xLe (.int a) (.int b) H Q) (Q (.bl (decide (a ≤ b))) H) := ⟨k_le⟩
instance : Stp (xGt (.int a) (.int b) H Q) (Q (.bl (decide (b < a))) H) := ⟨k_gt⟩
instance : Stp (xGe (.int a) (.int b) H Q) (Q (.bl (decide (b ≤ a))) H) := ⟨k_ge⟩
instance : Stp (xNeg (.int a) H Q) (Q (.int (-a)) H) := ⟨k_neg⟩
instance : Stp (rEq (.int a) (.int b) H Q) (Q (.bl (decide (a = b))) H) := ⟨k_eqI⟩
instance : Stp (rNe (.int a) (.int b) H Q) (Q (.bl (!decide (a = b))) H) := ⟨k_neI⟩
instance {a b : Bool} : Stp (rEq (.bl a) (.bl b) H Q) (Q (.bl (decide (a = b))) H) := ⟨k_eqB⟩
instance {a b : Bool} : Stp (rNe (.bl a) (.bl b) H Q) (Q (.bl (!decide (a = b))) H) := ⟨k_neB⟩
theorem k_eqNN (h : Q (.bl true) H) : rEq .non .non H Q := ⟨rfl, h⟩
theorem k_isN0 (h : Q (.bl true) H) : xIsN .non .non H Q := ⟨rfl, h⟩
theorem k_isNr {p : Addr} (h : Q (.bl false) H) : xIsN (.ref p) .non H Q := ⟨rfl, by rw [decide_eq_false (by intro z; cases z)]; exact h⟩
theorem k_isNi (h : Q (.bl false) H) : xIsN (.int a) .non H Q := ⟨rfl, by rw [decide_eq_false (by intro z; cases z)]; exact h⟩
theorem k_notN0 (h : Q (.bl false) H) : xNotN .non .non H Q := ⟨rfl, h⟩
theorem k_notNr {p : Addr} (h : Q (.bl true) H) : xNotN (.ref p) .non H Q := ⟨rfl, by rw [decide_eq_false (by intro z; cases z)]; exact h⟩
theorem k_notNi (h : Q (.bl true) H) : xNotN (.int a) .non H Q := ⟨rfl, by rw [decide_eq_false (by intro z; cases z)]; exact h⟩
instance : Stp (xIsN .non .non H Q) (Q (.bl true) H) := ⟨k_isN0⟩
instance {p : Addr} : Stp (xIsN (.ref p) .non H Q) (Q (.bl false) H) := ⟨k_isNr⟩
instance : Stp (xIsN (.int a) .non H Q) (Q (.bl false) H) := ⟨k_isNi⟩
instance : Stp (xNotN .non .non H Q) (Q (.bl false) H) := ⟨k_notN0⟩
instance {p : Addr} : Stp (xNotN (.ref p) .non H Q) (Q (.bl true) H) := ⟨k_notNr⟩
instance : Stp (xNotN (.int a) .non H Q) (Q (.bl true) H) := ⟨k_notNi⟩
instance : Stp (tTest te σ H QT) (te σ H fun x H1 => ∃ k, x = .bl k ∧ QT k H1) := ⟨k_test⟩
instance : Stp (tB te σ H QT) (te σ H fun x H1 => ∃ k, x = .bl k ∧ QT k H1) := ⟨k_B⟩
instance {b : Bool} {R : Bool → Prop} : Stp (∃ k, V.bl b = .bl k ∧ R k) (R b) := ⟨k_bl⟩
instance {R : Int → Prop} : Stp (∃ j, V.int a = .int j ∧ R j) (R a) := ⟨k_int⟩
instance {R : Int → Int → Prop} : Stp (∃ i' j', V.int a = .int i' ∧ V.int b = .int j' ∧ R i' j') (R a b) := ⟨k_int2⟩
instance : Stp (tAnd t u σ H QT) (t σ H fun c H1 => if c = true then u σ H1 QT else QT false H1) := ⟨k_and⟩
instance : Stp (tOr t u σ H QT) (t σ H fun c H1 => if c = true then QT true H1 else u σ H1 QT) := ⟨k_or⟩
instance : Stp (tNot t σ H QT) (t σ H fun c H1 => QT (!c) H1) := ⟨k_not⟩
instance : Stp (tNotV ta σ H Q) (ta σ H fun x H1 => ∃ c, x = .bl c ∧ Q (.bl (!c)) H1) := ⟨k_notV⟩
instance : Stp (tAndV ta tb σ H Q) (ta σ H fun x H1 => ∃ c, x = .bl c ∧ if c = true then tb σ H1 Q else Q (.bl false) H1) := ⟨k_andV⟩
instance : Stp (tOrV ta tb σ H Q) (ta σ H fun x H1 => ∃ c, x = .bl c ∧ if c = true then Q (.bl true) H1 else tb σ H1 Q) := ⟨k_orV⟩
instance {r : List V → Hp → VK → Prop} : Stp (tCB r tr σ H Q) (tr σ H fun vs H1 => r vs H1 Q) := ⟨k_cb⟩
instance : Stp (tNil σ H QA) (QA [] H) := ⟨k_nil⟩
instance : Stp (tCons ta tr σ H QA) (ta σ H fun x H1 => tr σ H1 fun xs H2 => QA (x :: xs) H2) := ⟨k_cons⟩
instance {sp : Sp} {E : XK} : Stp (tCall sp [] E tr σ H Q) (tr σ H fun vs H1 => sp vs H1 Q E) := ⟨fun h => k_call (by simpa only [List.append_nil] using h)⟩
instance : Stp (tLst tr σ H Q) (tr σ H fun xs H1 => newL xs H1 Q) := ⟨k_lst⟩
instance : Stp (tTup tr σ H Q) (tr σ H fun xs H1 => newT xs H1 Q) := ⟨k_tup⟩
instance {r : List V} : Stp (gCons g gs (v :: r) σ H QS) (g v σ H fun σ' H' => gs r σ' H' QS) := ⟨k_gcons⟩
instance : Stp (gNil [] σ H QS) (QS σ H) := ⟨k_gnil⟩
instance [e : Put σ i (some v) σ'] : Stp (gName i v σ H QS) (QS σ' H) := ⟨fun h => k_gname (by rw [e.eq]; exact h)⟩
instance {ts : TSet} : Stp (gSub to ti ts v σ H QS) (to σ H fun o H1 => ti σ H1 fun i H2 => ts o i v H2 fun H3 => QS σ H3) := ⟨k_gsub⟩
instance : Stp (rMax2 [.int a, .int b] H Q) (Q (.int (if b > a then b else a)) H) := ⟨k_max2⟩
instance : Stp (rMin2 [.int a, .int b] H Q) (Q (.int (if b < a then b else a)) H) := ⟨k_min2⟩
instance {T : String} {r : V → List V → Hp → VK → Prop} : Stp (tBM K T r ta tr σ H Q) (ta σ H fun x H1 => tyV K T x H1 ∧ tr σ H1 fun xs H2 => r x xs H2 Q) := ⟨k_bm⟩
instance {T : String} {r : V → List V → Hp → VK → Prop} : Stp (tBM0 K T r ta σ H Q) (ta σ H fun x H1 => tyV K T x H1 ∧ r x [] H1 Q) := ⟨k_bm0⟩
instance {A B : Prop} {i : Decidable (true = true)} : Stp (@ite Prop (true = true) i A B) A := ⟨fun h => by rw [if_pos rfl]; exact h⟩
instance {A B : Prop} {i : Decidable (false = true)} : Stp (@ite Prop (false = true) i A B) B := ⟨fun h => by rw [if_neg (by simp)]; exact h⟩
instance {A B : Prop} {i : Decidable ((!true) = true)} : Stp (@ite Prop ((!true) = true) i A B) B := ⟨fun h => by rw [if_neg (by simp)]; exact h⟩
instance {A B : Prop} {i : Decidable ((!false) = true)} : Stp (@ite Prop ((!false) = true) i A B) A := ⟨fun h => by rw [if_pos (by simp)]; exact h⟩
instance : Stp (tFor wi g tS ⟨nx, rt, bk, ct⟩ σ H) (wi σ H fun J H1 => ∃ W : Nat → Nat → L2.St → Hp → Prop, (∃ m, W 0 m σ H1) ∧ ∀ i m σ H, W i m σ H →
  (J.stop i H ∧ nx σ H) ∨ (J.go i H ∧ ∃ N : L2.St → Hp → Prop, (∀ σ' H', N σ' H' → ∃ m', m' < m ∧ W (i + 1) m' σ' H') ∧ ∀ x H', J.yld i H x H' → g x σ H' fun σ2 H2 => tS ⟨N, rt, nx, N⟩ σ2 H2)) := ⟨k_for⟩
instance {R : It → Hp → Prop} : Stp (iList K te σ H R) (te σ H fun x H1 => ∃ a, x = .ref a ∧ (∃ xs, SqL K H1 a xs) ∧ R (Itl K a) H1) := ⟨k_iList⟩
instance {R : It → Hp → Prop} : Stp (iTup K te σ H R) (te σ H fun x H1 => ∃ a, x = .ref a ∧ (∃ xs, SqT K H1 a xs) ∧ R (Itt K a) H1) := ⟨k_iTup⟩
instance {R : It → Hp → Prop} : Stp (iZip K tr σ H R) (tr σ H fun vs H1 => ∃ a b xs ys, vs = [.ref a, .ref b] ∧ SqL K H1 a xs ∧ SqL K H1 b ys ∧ R (Itz K a b) H1) := ⟨k_iZip⟩
instance {R : It → Hp → Prop} : Stp (iEnum K tr σ H R) (tr σ H fun vs H1 => ∃ a xs, vs = [.ref a] ∧ SqL K H1 a xs ∧ R (Ite K a) H1) := ⟨k_iEnum⟩
instance {R : It → Hp → Prop} : Stp (iRng1 tr σ H R) (tr σ H fun vs H1 => ∃ j : Int, vs = [.int j] ∧ -(2 ^ 62) ≤ j ∧ j < 2 ^ 62 ∧ R (Itr 0 j.toNat) H1) := ⟨k_iRng1⟩
instance {R : It → Hp → Prop} : Stp (iRng2 tr σ H R) (tr σ H fun vs H1 => ∃ i j : Int, vs = [.int i, .int j] ∧ (-(2 ^ 62) ≤ i ∧ i < 2 ^ 62 ∧ -(2 ^ 62) ≤ j ∧ j < 2 ^ 62) ∧ R (Itr i (j - i).toNat) H1) := ⟨k_iRng2⟩
instance {vs : List Nat} : Stp (tLc wi g t te vs σ H Q) (wi σ H fun J H1 => ∀ D, H1 D = none → ∃ W : Nat → Nat → Hp → Prop, (∃ m, W 0 m (upd H1 D (.lst []))) ∧ ∀ i m H, W i m H →
  (J.stop i H ∧ Q (.ref D) H) ∨ (J.go i H ∧ ∃ Nx : Hp → Prop, (∀ H', Nx H' → ∃ m', m' < m ∧ W (i + 1) m' H') ∧ ∀ x H', J.yld i H x H' → g x (wipe σ vs) H' fun σ2 H2 => wipe σ2 vs = wipe σ vs ∧ t σ2 H2 fun b H3 =>
    if b = true then te σ2 H3 fun y H4 => ∃ acc, H4 D = some (.lst acc) ∧ acc.length < sizeLine ∧ Nx (upd H4 D (.lst (acc ++ [y]))) else Nx H3)) := ⟨k_lc⟩
instance : Stp (tYes σ H QT) (QT true H) := ⟨k_yes⟩
instance {r : V → Option Int → Option Int → Hp → VK → Prop} {tl th : TO} : Stp (tSl r te tl th σ H Q) (te σ H fun x H1 => tl σ H1 fun l H2 => th σ H2 fun u H3 => r x l u H3 Q) := ⟨k_sl⟩
instance {QO : Option Int → Hp → Prop} : Stp (tNoPart σ H QO) (QO none H) := ⟨k_nopart⟩
instance {QO : Option Int → Hp → Prop} : Stp (tPart te σ H QO) (te σ H fun x H1 => ∃ i, x = .int i ∧ QO (some i) H1) := ⟨k_part⟩
instance {tg : L2.St → Hp → (Int → Int → Hp → Prop) → Prop} : Stp (tLstRg tg σ H Q) (tg σ H fun a b H1 => newR a b H1 Q) := ⟨k_listRg⟩
instance {QR : Int → Int → Hp → Prop} : Stp (tRg1 ta σ H QR) (ta σ H fun x H1 => ∃ n, x = .int n ∧ QR 0 n H1) := ⟨k_rg1⟩
instance {QR : Int → Int → Hp → Prop} : Stp (tRg2 ta tb σ H QR) (ta σ H fun x H1 => tb σ H1 fun y H2 => ∃ i j, x = .int i ∧ y = .int j ∧ QR i j H2) := ⟨k_rg2⟩
instance : Stp (rIsi K [.int a, .ty "int"] H Q) (Q (.bl true) H) := ⟨k_isiI⟩
instance : Stp (rIsi K [.int a, .ty "bool"] H Q) (Q (.bl false) H) := ⟨k_isiB⟩
instance : Stp (rIsi K [.int a, .ty "list"] H Q) (Q (.bl false) H) := ⟨k_isiLI⟩
instance {b : Bool} : Stp (rIntOf [.bl b] H Q) (Q (.int (if b then 1 else 0)) H) := ⟨k_intB⟩
theorem k_chain {r r' : R2} (h : ta σ H fun x H1 => tb σ H1 fun y H2 => r x y H2 fun z H3 => ∃ k, z = .bl k ∧ if k = true then tc σ H3 fun z H4 => r' y z H4 Q else Q (.bl false) H3) : tChain r r' ta tb tc σ H Q := h
instance {r r' : R2} : Stp (tChain r r' ta tb tc σ H Q) (ta σ H fun x H1 => tb σ H1 fun y H2 => r x y H2 fun z H3 => ∃ k, z = .bl k ∧ if k = true then tc σ H3 fun z H4 => r' y z H4 Q else Q (.bl false) H3) := ⟨k_chain⟩
theorem k_ifE (h : t σ H fun c H1 => if c = true then ta σ H1 Q else tb σ H1 Q) : tIf t ta tb σ H Q := h
instance : Stp (tIf t ta tb σ H Q) (t σ H fun c H1 => if c = true then ta σ H1 Q else tb σ H1 Q) := ⟨k_ifE⟩
def par2 (i j : Nat) (vs : List V) (σ : L2.St) (H : Hp) (nx : L2.St → Hp → Prop) : Prop := ∃ v w, vs = [v, w] ∧ nx ((σ.set i (some v)).set j (some w)) H
instance : Stp (tPar i j tr ⟨nx, rt, bk, ct⟩ σ H) (tr σ H fun vs H1 => par2 i j vs σ H1 nx) := ⟨fun h => h⟩
instance {σ'' : L2.St} [e : Put σ i (some v) σ'] [e2 : Put σ' j (some w) σ''] : Stp (par2 i j [v, w] σ H nx) (nx σ'' H) := ⟨fun h => ⟨v, w, rfl, by rw [e.eq, e2.eq]; exact h⟩⟩
end
/-! ### bits -/
def xShl : R2 := rI CPow fun i j => .int (i * 2 ^ j.toNat)
def xAnd : R2 := rI0 fun i j => .int (Builtin.bitAnd i j)
theorem k_shl {H : Hp} {Q : VK} {i j : Int} (hc : CPow i j) (h : Q (.int (i * 2 ^ j.toNat)) H) : xShl (.int i) (.int j) H Q := ⟨i, j, rfl, rfl, hc, h⟩
instance {H : Hp} {Q : VK} {i j : Int} : Stp (xAnd (.int i) (.int j) H Q) (Q (.int (Builtin.bitAnd i j)) H) := ⟨fun h => ⟨i, j, rfl, rfl, h⟩⟩
/-! ### list.count of flat values -/
def cntV (y : V) (ys : List V) : Nat := ys.countP fun z => eqV z y
def rCntV (K : PySem.W.Frag) : V → List V → Hp → VK → Prop := fun x xs H Q => ∃ (a : Addr) (ys : List V) (y : V), x = V.ref a ∧ xs = [y] ∧ SqL K H a ys ∧ flatV y = true ∧ ys.all flatV = true ∧ Q (.int (cntV y ys : Nat)) H
theorem cntV_eq {y : V} : ∀ {ys : List V} {its : List Value}, Vals ys its → ys.all flatV = true → its.countP (eqU y) = cntV y ys
  | _, _, .nil, _ => rfl
  | a :: as, _ :: _, .cons r rs, f => by
    have f1 : flatV a = true ∧ as.all flatV = true := by simpa using f
    unfold cntV
    rw [List.countP_cons, List.countP_cons, eqU_of r f1.1, cntV_eq rs f1.2]
    rfl
theorem mt_lcountV {X : Cx} : MtR X "list.count" (rCntV X.K) := by
  intro pins s σ H x xs v us Q I rx rxs h
  obtain ⟨a, ys, y, rfl, rfl, hs, fy, fys, q⟩ := h
  cases rx
  cases rxs with
  | cons ry rt =>
    rename_i uy ut
    cases rt
    obtain ⟨its, rv, ⟨⟨cls, dd, data, sl⟩, n, ho, hc, hdn, hd⟩, hlen⟩ := I.list hs
    simp only at hc hd
    subst hc hd
    refine call_meets PySem.F.slot_list_count ⟨_, ho, rfl⟩ PySem.F.entry_list_count (PySem.F.args_list_count_2 _ _)
      (SeqAt.list_countAt a its.toArray n dd sl uy (eqU y)) ⟨ho, fun u' hu' => mem_eqAt ry fy rv fys u' (by simpa using hu'), ?_⟩
    have ec : its.toArray.toList.countP (eqU y) = cntV y ys := cntV_eq rv fys
    refine ⟨.int (cntV y ys : Nat), H, I.tok _, ⟨s.toks, ?_⟩, q⟩
    show Value.int ((its.toArray.toList.countP (eqU y) : Nat) : Int) s.toks = Value.int ((cntV y ys : Nat) : Int) s.toks
    rw [ec]
section
variable {K : PySem.W.Frag} {H : Hp} {Q : VK}
theorem k_catN {p q : Addr} {xs ys : List V} (hp : H p = some (.lst xs)) (hq : H q = some (.lst ys)) (hz : xs.length + ys.length ≤ 100000) (h : ∀ l H', H l = none → Same H H' → H' l = some (.lst (xs ++ ys)) → Q (.ref l) H') : rCat (.ref p) (.ref q) H Q := k_cat hp hq hz fun l nl => h l _ nl (same_new nl) upd_same
theorem k_cntV {p : Addr} {ys : List V} {y : V} (hs : SqL K H p ys) (fy : flatV y = true) (fys : ys.all flatV = true) (h : Q (.int (cntV y ys : Nat)) H) : rCntV K (.ref p) [y] H Q := ⟨p, ys, y, rfl, rfl, hs, fy, fys, h⟩
theorem k_indexV {p : Addr} {ys : List V} {y z : V} {j : Nat} (hs : SqL K H p ys) (fy : flatV y = true) (fys : ys.all flatV = true) (hj : ys[j]? = some z) (hz : eqV z y = true) (hn : ∀ (m : Nat) (z' : V), m < j → ys[m]? = some z' → eqV z' y = false) (h : Q (.int (j : Nat)) H) : rIndex K (.ref p) [y] H Q := ⟨p, ys, y, j, z, rfl, rfl, hs, fy, fys, hj, hz, hn, h⟩
theorem k_sortedN {a : Addr} {ns : List Int} (hs : SqL K H a (ns.map V.int)) (h : ∀ (ns' : List Int) (p : Addr) H', ns'.Perm ns → ns'.Pairwise (· ≤ ·) → H p = none → Same H H' → H' p = some (.lst (ns'.map V.int)) → Q (.ref p) H') : rSortedI K [.ref a] H Q := k_sortedI hs fun ns' p h1 h2 h3 => h ns' p _ h1 h2 h3 (same_new h3) upd_same
end
/-! ### facts of older heaps -/
theorem hid_back {S : List Addr} {X Y : Hp} (h : Same X (hid S Y)) : Same X Y := h.trans (hid_same S Y)
theorem at_same {X Y : Hp} {p : Addr} {o : HO} (h : X p = some o) (s : Same X Y) : Y p = some o := s _ _ h
theorem sl_at {K : PySem.W.Frag} {X Y : Hp} {p : Addr} {xs : List V} (h : X p = some (.lst xs)) (s : Same X Y) : SqL K Y p xs := sl (s _ _ h)
theorem st_at {K : PySem.W.Frag} {X Y : Hp} {p : Addr} {xs : List V} (h : X p = some (.tup xs)) (s : Same X Y) : SqT K Y p xs := stp (s _ _ h)
theorem dpI_at {K : PySem.W.Frag} {X Y : Hp} {p : Addr} {ns : List Int} (h : X p = some (.lst (ns.map V.int))) (s : Same X Y) : Dp K Y (.ref p) (dInts ns) := dp_of_ints (sl (s _ _ h))
theorem dpP_at {K : PySem.W.Frag} {X Y : Hp} {p : Addr} {a b : Int} (h : X p = some (.tup [.int a, .int b])) (s : Same X Y) : Dp K Y (.ref p) (dPair (a, b)) := dp_of_pair (stp (s _ _ h))
theorem hid_free {S : List Addr} {H : Hp} (f : ∀ a ∈ S, H a = none) : Same H (hid S H) := fun b o hb => by
  rw [hid_ne fun z => by rw [f b z] at hb; cases hb]; exact hb
theorem hid_free1 {p : Addr} {H : Hp} (f : H p = none) : Same H (hid [p] H) := hid_free (free1 f)
theorem cut_to (xs : List V) (k : Nat) : cutV xs none (some (k : Int)) = xs.take k := by
  unfold cutV
  rw [HT.sIx_none, HT.sIx_nat, List.drop_zero, Nat.sub_zero]
  by_cases h : k ≤ xs.length
  · rw [Nat.min_eq_left h]
  · rw [Nat.min_eq_right (by omega), List.take_of_length_le (by simp), List.take_of_length_le (by omega)]
theorem cut_from (xs : List V) (k : Nat) : cutV xs (some (k : Int)) none = xs.drop k := by
  unfold cutV
  rw [HT.sIx_none, HT.sIx_nat]
  by_cases h : k ≤ xs.length
  · rw [Nat.min_eq_left h]
    exact List.take_of_length_le (by simp)
  · rw [Nat.min_eq_right (by omega), List.drop_of_length_le (Nat.le_refl _), List.drop_of_length_le (by omega), List.take_nil]
theorem dpa_take {K : PySem.W.Frag} {H : Hp} : ∀ {vs : List V} {ds : List PyData} (n : Nat), DpAll K H vs ds → DpAll K H (vs.take n) (ds.take n)
  | _, _, 0, _ => by simp only [List.take_zero]; exact .nil
  | _, _, n + 1, .nil => by simp only [List.take_nil]; exact .nil
  | _, _, n + 1, .cons h r => .cons h (dpa_take n r)
theorem dpa_drop {K : PySem.W.Frag} {H : Hp} : ∀ {vs : List V} {ds : List PyData} (n : Nat), DpAll K H vs ds → DpAll K H (vs.drop n) (ds.drop n)
  | _, _, 0, h => h
  | _, _, n + 1, .nil => by simp only [List.drop_nil]; exact .nil
  | _, _, n + 1, .cons _ r => dpa_drop n r
theorem Le.at {H H' : Hp} {pu p : Addr} {k : Int} {o : HO} (L : Le H pu k) (np : H p = none) (e : H' p = some o) : hid [pu] H' p = some o := by rw [hid_ne (L.fresh np)]; exact e
theorem hat {H : Hp} {pu p : Addr} {o : HO} (np : p ∉ [pu]) (e : H p = some o) : hid [pu] H p = some o := by rw [hid_ne np]; exact e
theorem kLp {xs : List V} {H : Hp} {Q : VK} {pu : Addr} {k : Int} (L : Le H pu k) (hn : xs.length ≤ 100000) (h : ∀ p H', H p = none → Same H H' → hid [pu] H' p = some (.lst xs) → Q (.ref p) H') : newL xs H Q := ⟨sz hn, fun p np => h p _ np (same_new np) (L.at np upd_same)⟩
theorem kTp {xs : List V} {H : Hp} {Q : VK} {pu : Addr} {k : Int} (L : Le H pu k) (hn : xs.length ≤ 100000) (h : ∀ p H', H p = none → Same H H' → hid [pu] H' p = some (.tup xs) → Q (.ref p) H') : newT xs H Q := ⟨sz hn, fun p np => h p _ np (same_new np) (L.at np upd_same)⟩
theorem sh_l2 {n : Nat} {c d : PyData} (h1 : Sh n c) (h2 : Sh n d) : Sh (n + 1) (.list [c, d]) := sh_list fun x hx => by
  rcases List.mem_cons.mp hx with rfl | hx
  · exact h1
  · rcases List.mem_cons.mp hx with rfl | hx
    · exact h2
    · cases hx
section
variable {K : PySem.W.Frag} {σ : L2.St} {H1 : Hp} {Q : VK} {g : TG} {tt : TT} {te : TE} {vs : List Nat}
/-- over a range, new objects may be made -/
theorem lc_growR {QD : Addr → Hp → Prop} {lo : Int} {n : Nat} (hz : n ≤ 50000) (f : Nat → Option V)
    (step : ∀ (i : Nat) H', i < n → Same H1 H' → ∀ (R : V → Hp → Prop) (R0 : Hp → Prop), (∀ y H'', f i = some y → Same H' H'' → R y H'') → (∀ H'', f i = none → Same H' H'' → R0 H'') →
      g (.int (lo + (i : Nat))) (wipe σ vs) H' fun σ2 H2 => wipe σ2 vs = wipe σ vs ∧ tt σ2 H2 fun b H3 => if b = true then te σ2 H3 R else R0 H3)
    (h : ∀ D H', H1 D = none → Same H1 H' → H' D = some (.lst ((List.range n).filterMap f)) → QD D H') :
    ∀ D, H1 D = none → ∃ W : Nat → Nat → Hp → Prop, (∃ m, W 0 m (upd H1 D (.lst []))) ∧ ∀ i m H, W i m H →
      ((Itr lo n).stop i H ∧ QD D H) ∨ ((Itr lo n).go i H ∧ ∃ Nx : Hp → Prop, (∀ H', Nx H' → ∃ m', m' < m ∧ W (i + 1) m' H') ∧ ∀ x H', (Itr lo n).yld i H x H' → g x (wipe σ vs) H' fun σ2 H2 => wipe σ2 vs = wipe σ vs ∧ tt σ2 H2 fun b H3 =>
        if b = true then te σ2 H3 fun y H4 => ∃ acc, H4 D = some (.lst acc) ∧ acc.length < sizeLine ∧ Nx (upd H4 D (.lst (acc ++ [y]))) else Nx H3) := by
  refine fun D nD => lc_range (fun i H => Same H1 H ∧ H D = some (.lst (((List.range n).take i).filterMap f))) ⟨same_new nD, by rw [upd_same]; simp⟩ ?_ ?_
  · rintro i H hi ⟨sm, hD⟩
    have tk := take_filterMap (f := f) (range_take hi)
    refine step i H hi sm _ _ (fun y H'' hy s2 => ⟨_, s2 _ _ hD, szl ?_, same_mut (sm.trans s2) nD, ?_⟩) (fun H'' hn s2 => ⟨sm.trans s2, ?_⟩)
    · have := List.length_filterMap_le f ((List.range n).take i)
      rw [List.length_take, List.length_range] at this
      omega
    · rw [upd_same, tk, hy]; rfl
    · rw [tk, hn, s2 _ _ hD]; simp
  · rintro H ⟨sm, hD⟩
    rw [List.take_of_length_le (by simp)] at hD
    exact h D H nD sm hD
end
/-- behind an if: what follows is shown once -/
theorem ifjoin {c : Bool} {σ : L2.St} {H : Hp} {s1 s2 : TS} {nx bk ct : L2.St → Hp → Prop} {rt : VK} (G : L2.St → Hp → Prop) (main : ∀ σ H, G σ H → nx σ H) (h : (∀ σ H, G σ H → nx σ H) → if c = true then s1 ⟨nx, rt, bk, ct⟩ σ H else s2 ⟨nx, rt, bk, ct⟩ σ H) : if c = true then s1 ⟨nx, rt, bk, ct⟩ σ H else s2 ⟨nx, rt, bk, ct⟩ σ H := h main
theorem k_repN {H : Hp} {Q : VK} {p : Addr} {xs : List V} {k : Int} (hp : H p = some (.lst xs)) (h0 : 0 ≤ k) (h1 : k < 100000) (h2 : xs.length * k.toNat ≤ 100000) (h : ∀ l H', H l = none → Same H H' → H' l = some (.lst (List.replicate k.toNat xs).flatten) → Q (.ref l) H') : rRep (.ref p) (.int k) H Q := k_rep hp h0 h1 h2 fun l nl => h l _ nl (same_new nl) upd_same
theorem ixN_last {n : Nat} (h : 0 < n) : ixN n (-1) = some (n - 1) := by
  unfold ixN
  rw [if_neg (by omega)]
  split
  · simp; omega
  · omega
theorem ifsjoin {t : TT} {σ : L2.St} {H : Hp} {s1 s2 : TS} {nx bk ct : L2.St → Hp → Prop} {rt : VK} (G : L2.St → Hp → Prop) (main : ∀ σ H, G σ H → nx σ H) (h : (∀ σ H, G σ H → nx σ H) → tIfS t s1 s2 ⟨nx, rt, bk, ct⟩ σ H) : tIfS t s1 s2 ⟨nx, rt, bk, ct⟩ σ H := h main
/-- over a list or a tuple -/
def iAny (w1 w2 : TI) : TI := fun σ H R => w1 σ H R ∨ w2 σ H R
theorem pi_any {X : Cx} {tg it : Expr} {w1 w2 : TI} (h1 : PI X tg it w1) (h2 : PI X tg it w2) : PI X tg it (iAny w1 w2) := ⟨fun pins s σ H R I h => by
  rcases h with h | h
  · exact h1.run pins s σ H R I h
  · exact h2.run pins s σ H R I h⟩
theorem k_inT2 {K : PySem.W.Frag} {H : Hp} {Q : VK} {p : Addr} {x a b : Int} (hs : SqT K H p [.int a, .int b]) (h : Q (.bl (decide (x = a ∨ x = b))) H) : rIn K false (.int x) (.ref p) H Q :=
  ⟨p, _, rfl, .inr hs, rfl, flat_ints [a, b], by
    rw [if_neg Bool.false_ne_true, show ([V.int a, .int b] : List V) = List.map V.int [a, b] from rfl, inV_ints]
    have e : decide (x ∈ [a, b]) = decide (x = a ∨ x = b) := by simp
    rw [e]; exact h⟩
theorem Pu.at {H H' : Hp} {pu ce p : Addr} {n : Nat} {t : Int} {o : HO} (L : Pu H pu ce n t) (np : H p = none) (e : H' p = some o) : hid [pu, ce] H' p = some o := by rw [hid_ne (L.fresh np)]; exact e
theorem kLq {xs : List V} {H : Hp} {Q : VK} {pu ce : Addr} {n : Nat} {t : Int} (L : Pu H pu ce n t) (hn : xs.length ≤ 100000) (h : ∀ p H', H p = none → Same H H' → hid [pu, ce] H' p = some (.lst xs) → Q (.ref p) H') : newL xs H Q := ⟨sz hn, fun p np => h p _ np (same_new np) (L.at np upd_same)⟩
theorem kTq {xs : List V} {H : Hp} {Q : VK} {pu ce : Addr} {n : Nat} {t : Int} (L : Pu H pu ce n t) (hn : xs.length ≤ 100000) (h : ∀ p H', H p = none → Same H H' → hid [pu, ce] H' p = some (.tup xs) → Q (.ref p) H') : newT xs H Q := ⟨sz hn, fun p np => h p _ np (same_new np) (L.at np upd_same)⟩
end Cm

namespace Cm
open PySem PySem.Spec PyProof.Rows L2

/-! ### a caught exception that is kept as a value -/
def ExV (cls : Value) (d : Option Addr) (a : Addr) : HO := .ext fun h => ∃ (oe : Obj) (vs : Array Value), h.get? a = some oe ∧ Zc cls d oe ∧ oe.data = .fields vs
theorem exV_ok {P : Program} {w : World} {H : Hp} {h : Heap} {a : Addr} {cls : Value} {d : Option Addr} {oe : Obj} {vs : Array Value} (he : h.get? a = some oe) (hz : Zc cls d oe) (hd : oe.data = .fields vs) : ObjOk P w H h a (ExV cls d a) :=
  ⟨⟨oe, vs, he, hz, hd⟩, ⟨oe, he⟩, fun h1 h2 ⟨o1, v1, g1, g2, g3⟩ k => ⟨o1, v1, k _ g1, g2, g3⟩⟩
theorem exV_at {P : Program} {w : World} {H : Hp} {h : Heap} {a : Addr} {cls : Value} {d : Option Addr} (hok : HOk P w H h) (e : H a = some (ExV cls d a)) : ∃ (oe : Obj) (vs : Array Value), h.get? a = some oe ∧ Zc cls d oe ∧ oe.data = .fields vs :=
  (hok a _ e).1
section
variable {X : Cx} {pins : List (Addr × Obj)} {σ : L2.St} {H : Hp} {s : Shared}
/-- an object of this def's own time is taken into sight -/
theorem track {a : Addr} {cls : Value} {d : Option Addr} {oe : Obj} {vs : Array Value} (I : Inv X pins σ H s) (he : s.heap.get? a = some oe) (hz : Zc cls d oe) (hd : oe.data = .fields vs) (na : H a = none) (n0 : X.s_0.heap.get? a = none)
    (nL : a ≠ X.env.locals) (np : ∀ p ∈ X.pn ++ pins, p.1 ≠ a) : Inv X pins σ (upd H a (ExV cls d a)) s := by
  have ne : ∀ {b : Addr} {o : HO}, H b = some o → b ≠ a := fun q => ne_of_none q na
  have nb : ∀ b o, X.s_0.heap.get? b = some o → b ≠ a := fun b o q z => by rw [z, n0] at q; cases q
  refine { I with base := ?_, free := ?_, freeC := ?_, pin := ?_, hok := ?_ }
  · have B := I.base
    refine ⟨B.keep, B.slot, fun b o q n x => ?_, B.there, fun b xs q => ?_, fun b o u q => ?_, fun b ps q => ?_⟩
    · rw [upd_ne (nb b o q)]; exact B.free b o q n x
    · have z := B.tups b xs q; rw [upd_ne (ne z)]; exact z
    · have z := B.frzs b o u q; rw [upd_ne (ne z)]; exact z
    · obtain ⟨m, z⟩ := B.tbls b ps q; exact ⟨m, by rw [upd_ne (ne z)]; exact z⟩
  · rw [upd_ne nL.symm]; exact I.free
  · intro x c q
    have nc : c ≠ a := fun z => by
      obtain ⟨v, oc, g1, g2⟩ := I.cell x c q
      rw [z, he] at g1
      cases g1
      rw [hd] at g2
      cases g2
    rw [upd_ne nc]; exact I.freeC x c q
  · intro p hp
    obtain ⟨g1, g2, g3⟩ := I.pin p hp
    exact ⟨g1, by rw [upd_ne (np p hp)]; exact g2, g3⟩
  · intro b u q
    by_cases hb : b = a
    · rw [hb] at q ⊢
      rw [upd_same] at q
      cases q
      exact exV_ok he hz hd
    · rw [upd_ne hb] at q
      exact (I.hok b u q).stay (fun _ _ _ z => z) (fun c z => by rw [upd_ne (ne z)]; exact z) fun c xs z => by rw [upd_ne (ne z)]; exact z
end
/-- what «except x as n: suite» wishes, the exception kept behind it -/
def wKept (K : PySem.W.Frag) (c : Value) (i : Nat) (ts : Addr → Value → Option Addr → TS) (Wout : WX) (D : Ends) : WX := fun cls d σ H =>
  ∃ b, PySem.W.exmOne K cls c = some b ∧
    (b = true → ∀ a, H a = none → ts a cls d ⟨fun σ' H' => D.nx (σ'.set i none) (upd H' a (ExV cls d a)), fun _ _ => False, fun _ _ => False, fun _ _ => False⟩ (σ.set i (some (.ref a))) H) ∧ (b = false → Wout cls d σ H)
section
variable {X : Cx} {x n : Str} {c : Value} {i : Nat} {body suite : List Stmt} {b0 : Stmt} {np pos pos' : Pos} {tb : WX → TS} {ts : Addr → Value → Option Addr → TS} {Wout : WX}
theorem ps_try_kept (hst : X.stack = X.env :: X.outer) (hfm : X.env.frame = some X.env.locals) (hex : X.ex = []) (hN : X.N.Nodup) (hi : X.N[i]? = some n) (hln : X.env.kindOf n = some .local) (hc : Names X x c) (tk : Takes X Wout)
    (hb : ∀ (W : WX) (pn : List (Addr × Obj)) (xe : Value → Shared → Prop), Takes (X.tr pn xe) W → PassesOwn (model X.prog X.w) X.A X.env xe → PSs (X.tr pn xe) body (tb W))
    (hsu : ∀ (a : Addr) (oe : Obj) (cls : Value) (d : Option Addr) (pn : List (Addr × Obj)), Zc cls d oe → (∃ vs, oe.data = .fields vs) → PSs (X.suite a ((a, oe) :: pn)) (b0 :: suite) (ts a cls d)) :
    PS X (.Try body [.ExceptHandler (some (.Name x np)) (some n) (b0 :: suite) pos'] [] [] pos) (fun D σ H => tb (wKept X.K c i ts Wout D) D σ H) := by
  constructor
  intro pins s σ H D I h
  have ok := I.ok
  have frm : X.A.frames = some (X.env :: X.outer) := by rw [← hst]; exact ok.frames
  refine wpAny_Try_except (wpAny_mono ((hb (wKept X.K c i ts Wout D) (X.pn ++ pins) _ (fun u s1 air => ?caught) PassesOwn.looking).run [] s σ H D (I.toTry _) h) (fun f s1 q => ?through) (fun e s1 q => q))
  case through =>
    cases f with
    | next => obtain ⟨σ1, H1, J, q⟩ := q; exact wpAny_execs_nil ⟨σ1, H1, J.ofTry ok, q⟩
    | brk => obtain ⟨σ1, H1, J, q⟩ := q; exact ⟨σ1, H1, J.ofTry ok, q⟩
    | cont => obtain ⟨σ1, H1, J, q⟩ := q; exact ⟨σ1, H1, J.ofTry ok, q⟩
    | ret u => obtain ⟨v, σ1, H1, J, r, q⟩ := q; exact ⟨v, σ1, H1, J.ofTry ok, r, q⟩
  case caught =>
    obtain ⟨a, B, sI, pins1, σ1, H1, cls, d, rfl, J0, ground, up, sky, na, os, bare, b, hcls, yes, no⟩ := air
    have J : Inv X pins σ1 H1 sI := J0.ofTry ok
    rw [show (X.tr (X.pn ++ pins) _).stack = X.stack from rfl, hst] at sky
    have Ba : B.get? a = none := by
      rcases sky with z | z | z
      · exact z.2.1
      · exact z.2.1
      · exact z.2.1
    show wpAny (model X.prog X.w) X.A (noteFrame (.ref a) X.env) _ _ _
    refine Sky.land Zc.steady frm hfm sky fun h2 fly up2 => ?_
    obtain ⟨o2, v2, g2, z2, d2⟩ := fly.there
    have J2 : Inv X pins σ1 H1 { s1 with heap := h2 } := J.landed ground fly.1 (up.trans up2) os bare
    have out : a ∉ frs (X.env :: X.outer) := fun hm => by
      obtain ⟨_, o', e', hnf⟩ := fly.2.2.1.mem hm
      rw [g2] at e'
      cases e'
      exact hnf _ d2
    have nL : a ≠ X.env.locals := fun z => out (List.mem_filterMap.mpr ⟨X.env, List.mem_cons_self, by rw [hfm, z]⟩)
    have nF : a ∉ X.fs := fun hm => by
      obtain ⟨e, he, q⟩ := List.mem_filterMap.mp hm
      exact out (List.mem_filterMap.mpr ⟨e, List.mem_cons_of_mem _ he, q⟩)
    have sIa : sI.heap.get? a = none := by
      cases q : sI.heap.get? a with
      | none => rfl
      | some o =>
        have := ground a o q (by rw [show (X.tr (X.pn ++ pins) _).stack = X.stack from rfl, hst]; exact out)
        rw [Ba] at this; cases this
    have n0 : X.s_0.heap.get? a = none := by
      cases q : X.s_0.heap.get? a with
      | none => rfl
      | some o =>
        obtain ⟨o', q'⟩ := J.base.there a o q (by rw [hex]; simp)
        rw [sIa] at q'; cases q'
    have pinNe : ∀ p ∈ X.pn ++ pins, p.1 ≠ a := fun p hp z => by
      have := (J.pin p hp).1
      rw [z, sIa] at this; cases this
    refine wpAny_handleBy_cons (codeAny_handlers_test ?_) (fun q => by cases q)
    have T2 := J2.suite g2 d2 na nL nF
    have ty : PySem.W.Looks (model X.prog X.w) h2 (typeOf (.ref a)) cls := fun _ _ _ _ k q => wpAny_typeOf_ref (k _ _ g2) (by rw [z2.1]; exact q)
    have named : ∀ {Q : Value → Shared → Prop} {E : Value → Shared → Prop}, Q c { s1 with heap := h2 } → wpAny (model X.prog X.w) (X.A.mark (some (.ref a))) (eval (.Name x np) X.env) Q E { s1 with heap := h2 } := fun {Q E} q => by
      obtain ⟨gl, db, hm | ⟨hm, hv, hn⟩⟩ := hc
      · exact ld_glob (X := X.suite a ((a, o2) :: (X.pn ++ pins))) T2 gl hm q db
      · exact ld_blt (X := X.suite a ((a, o2) :: (X.pn ++ pins))) T2 gl hm hv q hn db
    refine named ((PySem.W.exm_one (M := model X.prog X.w) J2.kIn ty hcls).here ?_)
    cases b with
    | false =>
      show wpAny _ X.A (handleBy (.ref a) X.env []) _ _ _
      refine wpAny_handleBy_nil ?_
      obtain ⟨_, _, _, oe, vs, T, oT, ts', he, hz, hd, h1, hr⟩ := id fly
      unfold PySem.passOn
      refine wpAny_bind (wpAny_field he hd h1 ?_)
      rw [if_neg (show ¬ ((Value.ref T == Value.none) = true) by simp)]
      have on : wpAny (model X.prog X.w) X.A (setFlight (.ref a) X.env.frame) (fun _ s4 => wpAny (model X.prog X.w) X.A (throw (.ref a) : Sem Flow) (SP X pins D) X.xe s4) X.xe { s1 with heap := h2 } := by
        rw [hfm]
        refine HandSPX.setFlight_upZ fly fun h4 hh4 up4 => wpAny_throw (tk _ _ ⟨a, B, sI, pins, σ1, H1, cls, d, rfl, J, ground, (up.trans up2).trans up4, .inr (.inr (by rw [hst]; exact hh4)), na, os, bare, no rfl⟩)
      first
        | exact wpAny_bind (wpAny_pure (wpAny_bind on))
        | exact wpAny_bind on
    | true =>
      refine codeAny_handlers_suite_as (HandSPX.lands_againZ fly fun h3 fly3 up3 => ?_)
      obtain ⟨o3, v3, g3, z3, d3⟩ := fly3.there
      have J3 : Inv X pins σ1 H1 { s1 with heap := h3 } := J.landed ground fly3.1 ((up.trans up2).trans up3) os bare
      refine store_ok (X := X.suite a ((a, o3) :: (X.pn ++ pins))) (v := .ref a) (J3.suite g3 d3 na nL nF) hN hi (.inl hln) rfl (fun s4 S4 => ?_) (.inr hln)
      refine wpAny_mono ((hsu a o3 cls d (X.pn ++ pins) z3 ⟨_, d3⟩).run [] s4 _ H1 _ S4 (yes rfl a na)) (fun f s5 q => ?_) (fun _ _ z => z.elim)
      cases f with
      | brk => obtain ⟨_, _, _, q⟩ := q; exact q.elim
      | cont => obtain ⟨_, _, _, q⟩ := q; exact q.elim
      | ret u => obtain ⟨_, _, _, _, _, q⟩ := q; exact q.elim
      | next =>
        obtain ⟨σ5, H5, S5, q5⟩ := q
        have K5 : Inv X ((a, o3) :: pins) σ5 H5 s5 := ⟨ok, S5.os, S5.bare, S5.base, S5.loc, S5.cell, S5.free, S5.freeC, fun p hp => S5.pin p (by
          rw [List.append_nil]
          rcases List.mem_append.mp hp with hp | hp
          · exact List.mem_cons_of_mem _ (List.mem_append_left _ hp)
          · rcases List.mem_cons.mp hp with hp | hp
            · rw [hp]; exact List.mem_cons_self
            · exact List.mem_cons_of_mem _ (List.mem_append_right _ hp)), S5.hok, S5.len⟩
        refine gone_ok K5 hN hi hln fun s6 K6 => ?_
        obtain ⟨g6, na6, _⟩ := K6.pin (a, o3) (List.mem_append_right _ List.mem_cons_self)
        have K7 : Inv X pins (σ5.set i none) H5 s6 := { K6 with pin := fun p hp => K6.pin p (by
          rcases List.mem_append.mp hp with hp | hp
          · exact List.mem_append_left _ hp
          · exact List.mem_append_right _ (List.mem_cons_of_mem _ hp)) }
        exact ⟨_, _, track K7 g6 z3 d3 na6 n0 nL pinNe, q5⟩
end

/-! ### isinstance of a kept exception, of None and of the other values -/
/-- what an exception class of the program must say, so that its instances are asked rightly -/
structure ExK (K : PySem.W.Frag) (D : Addr) : Prop where
  hg : PySem.W.findIn K (.ref D) "__getattribute__" = some (some (.builtin "BaseException.__getattribute__"))
  hk : PySem.W.findIn K (.ref D) "__getattr__" = some none
  hs : PySem.W.subIn K (.ref D) (.type "BaseException") = some true
  hd : PySem.W.hasDictIn K D = true
  ha : PySem.W.findIn K (.ref D) "__class__" = some (some (.builtin "object.__class__"))
  hn : PySem.W.specialIn K (.builtin "object.__class__") "__get__" = some (some (.builtin "getset_descriptor.__get__"))
  ht : PySem.W.takesIn K (.builtin "object.__class__") = some true
  hm : PySem.W.mroIn K D (.type "object") = some true
def exkB (K : PySem.W.Frag) (D : Addr) : Bool :=
  (PySem.W.findIn K (.ref D) "__getattribute__" == some (some (.builtin "BaseException.__getattribute__"))) && ((PySem.W.findIn K (.ref D) "__getattr__" == some none) && ((PySem.W.subIn K (.ref D) (.type "BaseException") == some true) && (PySem.W.hasDictIn K D &&
  ((PySem.W.findIn K (.ref D) "__class__" == some (some (.builtin "object.__class__"))) && ((PySem.W.specialIn K (.builtin "object.__class__") "__get__" == some (some (.builtin "getset_descriptor.__get__"))) && ((PySem.W.takesIn K (.builtin "object.__class__") == some true) && (PySem.W.mroIn K D (.type "object") == some true)))))))
theorem exkB_ok {K : PySem.W.Frag} {D : Addr} (h : exkB K D = true) : ExK K D := by
  unfold exkB at h
  simp only [Bool.and_eq_true, beq_iff_eq] at h
  obtain ⟨h1, h2, h3, h4, h5, h6, h7, h8⟩ := h
  exact ⟨h1, h2, h3, h4, h5, h6, h7, h8⟩
theorem ExK.xf {K : PySem.W.Frag} {D : Addr} (h : ExK K D) : XfC K D := ⟨h.hg, h.hk, h.hs, h.hd⟩
/-- what is known of a kept exception at a: its class D, its dict's state -/
def KeptAt (H : Hp) (a D : Addr) : Prop := ∃ d : Option Addr, H a = some (ExV (.ref D) d a) ∧ (d = none ∨ ∃ dd fs, d = some dd ∧ H dd = some (.xd fs))
def rIsX (K : PySem.W.Frag) : List V → Hp → VK → Prop := fun xs H Q => ∃ (a D : Addr) (c : V) (cv : Value) (b : Bool), xs = [.ref a, c] ∧ KeptAt H a D ∧ ExK K D ∧ ClsV c cv ∧ PySem.W.kitOne K (.ref D) cv = some b ∧ Q (.bl b) H
def rIsXT (K : PySem.W.Frag) : List V → Hp → VK → Prop := fun xs H Q => ∃ (a D tp : Addr) (cs : List V) (us : List Value) (b : Bool), xs = [.ref a, .ref tp] ∧ KeptAt H a D ∧ ExK K D ∧ H tp = some (.tup cs) ∧ Paired ClsV cs us ∧ PySem.W.kitAny K (.ref D) us = some b ∧ Q (.bl b) H
section
variable {X : Cx} {pins : List (Addr × Obj)} {σ : L2.St} {H : Hp} {s : Shared}
theorem kept_inst {a D : Addr} (I : Inv X pins σ H s) (k : KeptAt H a D) : ∃ ox od, PySem.W.InstAt s.heap a ox D od := by
  obtain ⟨d, e, dd⟩ := k
  obtain ⟨oe, vs, g, z, hd⟩ := exV_at I.hok e
  obtain ⟨oc, od, oda, osl⟩ := oe
  obtain ⟨h1, h2⟩ := z
  dsimp only at h1 h2 hd
  subst h1 h2 hd
  rcases dd with rfl | ⟨dx, fs, rfl, hx⟩
  · exact ⟨_, none, g, rfl, rfl, trivial⟩
  · obtain ⟨mA, ⟨o, es, ep, g2, _⟩, _⟩ := (show ObjOk X.prog X.w H s.heap dx (.xd fs) from I.hok dx _ hx)
    exact ⟨_, some o, g, rfl, rfl, g2⟩
theorem kit_exc {K : PySem.W.Frag} {a D : Addr} {ox : Obj} {od : Option Obj} (C : ExK K D) : PySem.W.KitX K (.ref a) (.ref D) (fun h => PySem.W.InstAt h a ox D od) := by
  have hcl : (PySem.W.clsIn K D).isSome = true := by
    obtain ⟨cd, hc, _⟩ := PySem.W.any_some C.hd
    rw [hc]; rfl
  exact PySem.W.kitx_exc hcl C.hg C.hk C.hs C.ha C.hn C.ht C.hm
theorem call_isX : CallR X (.builtin "isinstance") (rIsX X.K) := by
  intro pins s σ H xs us Q I r h
  obtain ⟨a, D, c, cv, b, rfl, k, C, kc, e, q⟩ := h
  obtain ⟨u1, u2, rfl, r1, r2⟩ := vals2 r
  have e2 := kc.eq r2
  subst e2
  cases (show u1 = Value.ref a from r1)
  obtain ⟨ox, od, J⟩ := kept_inst I k
  exact PySem.W.kia_one (kit_exc C) I.kIn J e (fun z => nomatch z) fun tk => ⟨.bl b, H, I.tok tk, rfl, q⟩
theorem call_isXT : CallR X (.builtin "isinstance") (rIsXT X.K) := by
  intro pins s σ H xs us Q I r h
  obtain ⟨a, D, tp, cs, ws, b, rfl, k, C, hT, kc, e, q⟩ := h
  obtain ⟨u1, u2, rfl, r1, r2⟩ := vals2 r
  cases (show u1 = Value.ref a from r1)
  cases (show u2 = Value.ref tp from r2)
  obtain ⟨ox, od, J⟩ := kept_inst I k
  obtain ⟨_, its, rv, o, h1, h2, n, h3⟩ := (show ObjOk X.prog X.w H s.heap tp (.tup cs) from I.hok tp _ hT)
  have e3 := ClsV.all kc rv
  subst e3
  obtain ⟨oc, od', dt, sl⟩ := o
  simp only at h2 h3
  subst h2 h3
  exact PySem.W.kia_tup (kit_exc C) I.kIn J h1 e (fun z => nomatch z) fun tk => ⟨.bl b, H, I.tok tk, rfl, q⟩
/-- isinstance of anything, one class or a tuple of them -/
def rIsA (K : PySem.W.Frag) : List V → Hp → VK → Prop := fun xs H Q => rIsi K xs H Q ∨ rIsiT K xs H Q ∨ rIsX K xs H Q ∨ rIsXT K xs H Q
theorem q_isA : CallR X (.builtin "isinstance") (rIsA X.K) := by
  intro pins s σ H xs us Q I r h
  rcases h with h | h | h | h
  · exact call_isi pins s σ H xs us Q I r h
  · exact call_isiT pins s σ H xs us Q I r h
  · exact call_isX pins s σ H xs us Q I r h
  · exact call_isXT pins s σ H xs us Q I r h
end

/-! ### a kept exception's field -/
def tXat (K : PySem.W.Frag) (n : Str) (te : TE) : TE := fun σ H Q => te σ H fun x H1 => ∃ (a C dd : Addr) (fs : List (Str × V)) (v : V), x = .ref a ∧ H1 a = some (ExV (.ref C) (some dd) a) ∧ XfC K C ∧ PySem.W.findIn K (.ref C) n = some none ∧ H1 dd = some (.xd fs) ∧ fs.lookup n = some v ∧ Q v H1
theorem pe_xat {X : Cx} {e : Expr} {te : TE} {pos : Pos} {n : Str} (he : PE X e te) (hb : attributeBase e n X.env (eval e X.env) = eval e X.env := by rfl) : PE X (.Attribute e n pos) (tXat X.K n te) := by
  constructor
  intro pins s σ H Q I h
  refine attr_of hb (thn (he.run pins s σ H _ I h) fun u s1 hh => ?_)
  obtain ⟨x, H1, I1, rx, a, C, dd, fs, v, rfl, ea, T, hno, ed, l, q⟩ := hh
  cases (show u = Value.ref a from rx)
  obtain ⟨oe, vs, g, z, hd⟩ := exV_at I1.hok ea
  obtain ⟨mA, hns, hr⟩ := (show ObjOk X.prog X.w H1 s1.heap dd (.xd fs) from I1.hok dd _ ed)
  obtain ⟨od, ho, hl⟩ := lookIn_ns hns
  obtain ⟨u, hu, ru⟩ := RelO.some_of (v := v) (o := mA n) (by rw [← l]; exact hr n)
  have J : PySem.W.InstAt s1.heap a oe C (some od) := ⟨g, z.1, by unfold PySem.W.notCls; rw [hd] <;> rfl, by rw [z.2]; exact ho⟩
  exact HandSPX.exc_get I1.kIn J T.ga T.gg T.exC (PySem.W.findObj_own T.hdC hno rfl (by rw [hl, hu])) (handed_of ru) ⟨v, H1, I1.tok _, ru, q⟩

/-! ### Base.__init__(self, ..) in an own exception's __init__, Base an own class without an __init__ -/
structure BaseI (K : PySem.W.Frag) (mg : Str → Option Value) (B : Addr) (x : Str) : Prop where
  gB : mg x = some (.ref B)
  rd : PySem.W.readsIn K B (.type "type") = true
  ga : PySem.W.specialIn K (.ref B) "__getattribute__" = some (some (.builtin "type.__getattribute__"))
  at_ : PySem.W.findCls K (.ref B) (.type "type") "__init__" = some (.val (.builtin "ValueError.__init__"))
theorem pe_binit {X : Cx} {x : Str} {B : Addr} {e : Expr} {es : List Expr} {ta : TA} {p1 p2 pos : Pos} {pl : Sem Bool} (T : BaseI X.K X.mg B x) (hg : Gl X x) (ha : PA X (e :: es) ta) (hdb : (x == ("__debug__" : Str)) = false := by decide)
    (hc : eval (.Call (.Attribute (.Name x p1) "__init__" p2) (e :: es) [] pos) X.env = (do
      let ov ← eval (.Name x p1) X.env
      standAt p2.atName
      let (f, first) ← holding [ov] (getMethod ov "__init__" pl)
      callWith pos f first (backTo pos (starEach (e :: es) X.env)) (backToKw pos (keywordEach [] X.env))) := by rfl)
    (he : starEach (e :: es) X.env = (false, eval e X.env) :: starEach es X.env := by rfl) (hpl : (backTo pos (starEach es X.env)).any (·.1) = false := by rfl) :
    PE X (.Call (.Attribute (.Name x p1) "__init__" p2) (e :: es) [] pos) (tVeI X.K ta) := by
  constructor
  intro pins s σ H Q I h
  refine PySem.W.methodCall_KW (ld_glob I hg T.gB ?_ hdb) hc
  refine PySem.W.method_cls I.kIn T.ga (PySem.W.cls_value I.kIn T.rd T.at_ (by decide +kernel) ?_)
  show wpAny _ _ (callWith pos (Value.builtin "ValueError.__init__") [] (backTo pos (starEach (e :: es) X.env)) []) _ _ _
  refine PyProof.Rows.callWith_method1 (thn (ha.run pos pins _ σ H _ (I.tok _) h) fun us s1 hh => ?_) he hpl
  obtain ⟨vs, H1, I1, r1, a, C, ws, rfl, hl, O, ea, q⟩ := hh
  cases r1 with
  | @cons _ u0 _ ur ra rr =>
    cases (show u0 = Value.ref a from ra)
    have len : ur.length ≤ sizeLine := by
      have := Paired.length rr
      rw [sizeLine_eq]
      omega
    exact oinit_ok O I1 ea len fun s' J => ⟨.non, H1, J, rfl, q⟩

/-! ### readings of raise, of an exception's own __init__ and of try, step by step -/
/-- raise C('..'), C without an __init__ -/
def tRaiseP (C : Addr) (E : XK) : TS := fun _ _ H => E (.ref C) none H
/-- raise C(e), C with an __init__ that keeps sp -/
def tRaiseO (C : Addr) (sp : Sp) (ta : TA) (E : XK) : TS := fun _ σ H => tMkO C sp [] ta σ H fun cls d H' => E cls d H'
/-- the promise of such an __init__(self, f): the field f is stored -/
def prInit (C : Addr) (f : Str) (v0 v1 : V) (H : Hp) (Q : VK) : Prop := ∃ a, v0 = .ref a ∧ H a = some (exo a C none) ∧ ∀ dx, H dx = none → dx ≠ a → Q .non (upd (upd H dx (exd dx [(f, v1)])) a (exo a C (some dx)))
def spInit (C : Addr) (f : Str) : Sp := fun vs H Q _ => ∃ v0 v1, vs = [v0, v1] ∧ prInit C f v0 v1 H Q
/-- try: .. except c as n: m = n (n in slot i, m in slot j) -/
def tTryK (K : PySem.W.Frag) (c : Value) (i j : Nat) (tb : WX → TS) : TS := fun D σ H => tb (wKept K c i (fun _ _ _ => tAsg (tVar i) (gName j)) (fun _ _ _ _ => False) D) D σ H
section
variable {K : PySem.W.Frag} {σ : L2.St} {H : Hp} {D : Ends} {E : XK} {C : Addr} {f : Str}
theorem k_raiseP (h : E (.ref C) none H) : tRaiseP C E D σ H := h
theorem heap_made {H : Hp} {a d : Addr} {o1 o2 o3 o4 : HO} (na : H a = none) (ne : d ≠ a) : upd (L2.del (upd (upd (upd H a o1) d o2) a o3) a) d o4 = upd H d o4 := by
  funext b
  by_cases h1 : b = d
  · rw [h1, upd_same, upd_same]
  · rw [upd_ne h1, upd_ne h1]
    by_cases h2 : b = a
    · rw [h2, L2.del_same, na]
    · rw [L2.del_ne h2, upd_ne h2, upd_ne h1, upd_ne h2]
theorem exo_ne_exd {a d C : Addr} {fs : List (Str × V)} : True := trivial
theorem k_raiseO {ta : TA} {v : V} (hta : ∀ (R : List V → Hp → Prop), R [v] H → ta σ H R) (h : ∀ d, H d = none → E (.ref C) (some d) (upd H d (.xd [(f, v)]))) : tRaiseO C (spInit C f) ta E D σ H := by
  refine hta _ ⟨(by show 1 ≤ 1000; decide), fun a na => ?_⟩
  refine ⟨.ref a, v, rfl, a, rfl, upd_same, fun dx ndx ne => ⟨rfl, dx, [(f, v)], upd_same, ?_, ?_, ?_⟩⟩
  · rw [upd_ne ne, upd_same]
  · rw [upd_ne ne] at ndx; exact ndx
  · rw [heap_made na ne]
    rw [upd_ne ne] at ndx
    exact h dx ndx
theorem k_try {i j : Nat} {tb : WX → TS} (h : tb (wKept K (.ref C) i (fun _ _ _ => tAsg (tVar i) (gName j)) (fun _ _ _ _ => False) D) D σ H) : tTryK K (.ref C) i j tb D σ H := h
theorem k_callS {sp : Sp} {W : WX} {tr : TA} {Q : VK} (h : tr σ H fun vs H1 => sp vs H1 Q (WE W σ)) : tCallS sp (WE W) tr σ H Q := h
/-- the exception is one of the clause's -/
theorem k_caught {c : Value} {i j : Nat} {cls : Value} {d : Option Addr} {nx : L2.St → Hp → Prop} {rt : VK} {bk ct : L2.St → Hp → Prop} (hi : i < σ.length) (hc : PySem.W.exmOne K cls c = some true)
    (h : ∀ a, H a = none → nx (((σ.set i (some (.ref a))).set j (some (.ref a))).set i none) (upd H a (ExV cls d a))) : wKept K c i (fun _ _ _ => tAsg (tVar i) (gName j)) (fun _ _ _ _ => False) ⟨nx, rt, bk, ct⟩ cls d σ H :=
  ⟨true, hc, fun _ a na => ⟨.ref a, by rw [List.getElem?_set_self hi], h a na⟩, fun z => Bool.noConfusion z⟩
theorem k_isXone {xs : List V} {Q : VK} {a D : Addr} {c : V} {cv : Value} {b : Bool} (k : KeptAt H a D) (e : ExK K D) (kc : ClsV c cv) (h1 : PySem.W.kitOne K (.ref D) cv = some b) (h : Q (.bl b) H) : rIsA K [.ref a, c] H Q := .inr (.inr (.inl ⟨a, D, c, cv, b, rfl, k, e, kc, h1, h⟩))
theorem k_isXtup {Q : VK} {a D tp : Addr} {cs : List V} {us : List Value} {b : Bool} (k : KeptAt H a D) (e : ExK K D) (hT : H tp = some (.tup cs)) (kc : Paired ClsV cs us) (h1 : PySem.W.kitAny K (.ref D) us = some b) (h : Q (.bl b) H) : rIsA K [.ref a, .ref tp] H Q := .inr (.inr (.inr ⟨a, D, tp, cs, us, b, rfl, k, e, hT, kc, h1, h⟩))
theorem k_isNone {Q : VK} {c : V} {cv : Value} {b : Bool} (kc : ClsV c cv) (h1 : PySem.W.kitOne K (.type "NoneType") cv = some b) (h : Q (.bl b) H) : rIsA K [.non, c] H Q := .inl ⟨_, _, _, _, b, rfl, kc, .base .non, h1, h⟩
theorem k_isOne {Q : VK} {xs : List V} (h : rIsi K xs H Q) : rIsA K xs H Q := .inl h
theorem k_xat {n : Str} {te : TE} {Q : VK} (h : te σ H fun x H1 => ∃ (a C dd : Addr) (fs : List (Str × V)) (v : V), x = .ref a ∧ H1 a = some (ExV (.ref C) (some dd) a) ∧ XfC K C ∧ PySem.W.findIn K (.ref C) n = some none ∧ H1 dd = some (.xd fs) ∧ fs.lookup n = some v ∧ Q v H1) : tXat K n te σ H Q := h
theorem exV_kept {a : Addr} {D : Addr} {d : Option Addr} {H : Hp} (h : H a = some (ExV (.ref D) d a)) (hd : d = none ∨ ∃ dd fs, d = some dd ∧ H dd = some (.xd fs)) : KeptAt H a D := ⟨d, h, hd⟩
end
section
variable {K : PySem.W.Frag} {σ : L2.St} {H : Hp} {D : Ends} {E : XK} {C : Addr} {f : Str} {Q : VK} {te : TE} {tr : TA}
instance {i j : Nat} {tb : WX → TS} : Stp (tTryK K (.ref C) i j tb D σ H) (tb (wKept K (.ref C) i (fun _ _ _ => tAsg (tVar i) (gName j)) (fun _ _ _ _ => False) D) D σ H) := ⟨k_try⟩
instance {sp : Sp} {W : WX} : Stp (tCallS sp (WE W) tr σ H Q) (tr σ H fun vs H1 => sp vs H1 Q (WE W σ)) := ⟨k_callS⟩
instance {n : Str} : Stp (tXat K n te σ H Q) (te σ H fun x H1 => ∃ (a C dd : Addr) (fs : List (Str × V)) (v : V), x = .ref a ∧ H1 a = some (ExV (.ref C) (some dd) a) ∧ XfC K C ∧ PySem.W.findIn K (.ref C) n = some none ∧ H1 dd = some (.xd fs) ∧ fs.lookup n = some v ∧ Q v H1) := ⟨k_xat⟩
instance : Stp (tRaiseP C E D σ H) (E (.ref C) none H) := ⟨k_raiseP⟩
/-- what follows a caught exception is shown once -/
theorem tryjoin {i j : Nat} {tb : WX → TS} (G : Value → Option Addr → L2.St → Hp → Prop) (rest : ∀ cls d σ' H', G cls d σ' H' → wKept K (.ref C) i (fun _ _ _ => tAsg (tVar i) (gName j)) (fun _ _ _ _ => False) D cls d σ' H')
    (h : (∀ cls d σ' H', G cls d σ' H' → wKept K (.ref C) i (fun _ _ _ => tAsg (tVar i) (gName j)) (fun _ _ _ _ => False) D cls d σ' H') → tTryK K (.ref C) i j tb D σ H) : tTryK K (.ref C) i j tb D σ H := h rest
end
section
variable {P : Program} {w : World} {K : PySem.W.Frag} {mg : Str → Option Value} {base : Heap}
/-- such an __init__ keeps its promise; msg, f: its texts -/
theorem init_reads {C B : Addr} {f : Str} {msg : V} {v0 v1 : V} {H : Hp} {Q : VK} (O : OexC K C) (hno : PySem.W.findIn K (.ref C) f = some none) (h : prInit C f v0 v1 H Q) :
    tSeq (tDrop (tVeI K (tCons (tVar 0) (tCons (tC msg) tNil)))) (tOst K f (tVar 0) (tVar 1)) { nx := fun _ H' => Q .non H', rt := Q } [some v0, some v1] H := by
  obtain ⟨a, rfl, ea, q⟩ := h
  refine ⟨_, rfl, a, C, [msg], rfl, (by show 1 ≤ 1000; decide), O, ea, ?_⟩
  exact ⟨_, rfl, _, rfl, a, C, rfl, O, hno, .inl ⟨ea, fun dx nd ne => q dx nd ne⟩⟩
end
end Cm

namespace Cm
open PySem PySem.Spec PyProof.Rows L2

/-! ### how many unlike ints -/
def unl (ns : List Int) : Nat := (PyProof.Rows.firstMet (fun i => ns.getD i 0) ns.length).length
theorem unl_le (ns : List Int) : unl ns ≤ ns.length := PyProof.Rows.firstMet_length_le _ _
def tLenU (K : PySem.W.Frag) (ta : TE) : TE := fun σ H Q => ta σ H fun x H1 => ∃ (l : Addr) (ns : List Int), x = .ref l ∧ SqL K H1 l (ns.map V.int) ∧ ns.length ≤ 4000 ∧ Q (.int (unl ns : Nat)) H1
theorem pe_lenU {X : Cx} {a : Expr} {ta : TE} {p p2 q pos : Pos} (cm : X.calm = true) (gl : Gl X "len") (ml : X.mg "len" = none) (gs : Gl X "set") (ms : X.mg "set" = none) (pa : PE X a ta)
    (se : starEach [a] X.env = (false, eval a X.env) :: starEach [] X.env := by rfl) : PE X (.Call (.Name "len" p) [.Call (.Name "set" p2) [a] [] q] [] pos) (tLenU X.K ta) := by
  constructor
  intro pins s σ H Q I h
  refine Call_ (ld_blt I gl ml boot_len (PyProof.Rows.callWith_builtin1 (PyProof.Rows.args_cons ?_ rfl) rfl rfl))
  refine Call_ (ld_blt I gs ms boot_set (PyProof.Rows.callWith_type1 (PyProof.Rows.args_cons (thn (pa.run pins s σ H _ I h) fun v s1 ⟨x, H1, J, rx, qx⟩ => PyProof.Rows.args_nil ?_) se) se rfl))
  obtain ⟨l, ns, rfl, hq, hl, qx⟩ := qx
  cases rx
  obtain ⟨its, rv, pl, hz⟩ := J.list hq
  have sz1 : its.toArray.size = ns.length := by rw [List.size_toArray, ← rv.length, List.length_map]
  refine call_set_list (J.ok.hd cm) pl.isList (by simpa using RZ.intsAre_vals rv) (by rw [sz1]; unfold scanBound; omega) fun h' tk hS hk => PyProof.Rows.args_nil ?_
  rw [sz1] at hS
  obtain ⟨o, es, ep, t, ho, hex, hd, _, _, _, hf, hn⟩ := hS
  have J2 : Inv X pins σ H1 { s1 with heap := h', toks := tk } := J.kept fun b o e => hk b o (Heap.lt_size e) e
  have hu := unl_le ns
  exact call_len_set ho hex hd hf (by rw [hn]; unfold unl at hu; omega) ⟨.int (unl ns : Nat), H1, J2.tok _, ⟨_, by rw [hn]; rfl⟩, qx⟩

section
variable {K : PySem.W.Frag} {σ : L2.St} {H1 : Hp} {g : TG} {tt : TT} {te : TE} {vs : List Nat}
/-- over a tuple, new objects may be made -/
theorem lc_growT {QD : Addr → Hp → Prop} {α : Type} {a : Addr} {xs : List V} (hs : SqT K H1 a xs) (ps : List α) (hl : xs.length = ps.length) (hz : ps.length ≤ 50000) (f : α → Option V)
    (step : ∀ (i : Nat) x p H', xs[i]? = some x → ps[i]? = some p → Same H1 H' → ∀ (R : V → Hp → Prop) (R0 : Hp → Prop), (∀ y H'', f p = some y → Same H' H'' → R y H'') → (∀ H'', f p = none → Same H' H'' → R0 H'') →
      g x (wipe σ vs) H' fun σ2 H2 => wipe σ2 vs = wipe σ vs ∧ tt σ2 H2 fun b H3 => if b = true then te σ2 H3 R else R0 H3)
    (h : ∀ D H', H1 D = none → Same H1 H' → H' D = some (.lst (ps.filterMap f)) → QD D H') :
    ∃ a', V.ref a = .ref a' ∧ (∃ xs, SqT K H1 a' xs) ∧ ∀ D, H1 D = none → ∃ W : Nat → Nat → Hp → Prop, (∃ m, W 0 m (upd H1 D (.lst []))) ∧ ∀ i m H, W i m H →
      ((Itt K a').stop i H ∧ QD D H) ∨ ((Itt K a').go i H ∧ ∃ Nx : Hp → Prop, (∀ H', Nx H' → ∃ m', m' < m ∧ W (i + 1) m' H') ∧ ∀ x H', (Itt K a').yld i H x H' → g x (wipe σ vs) H' fun σ2 H2 => wipe σ2 vs = wipe σ vs ∧ tt σ2 H2 fun b H3 =>
        if b = true then te σ2 H3 fun y H4 => ∃ acc, H4 D = some (.lst acc) ∧ acc.length < sizeLine ∧ Nx (upd H4 D (.lst (acc ++ [y]))) else Nx H3) := by
  refine ⟨a, rfl, ⟨xs, hs⟩, fun D nD => lc_tup (xs := xs) (fun i H => Same H1 H ∧ H D = some (.lst ((ps.take i).filterMap f))) ⟨same_new nD, by rw [upd_same]; simp⟩ (fun i H _ e => same_seqT e.1 hs) ?_ ?_⟩
  · rintro i x H hx ⟨sm, hD⟩
    have hi : i < xs.length := (List.getElem?_eq_some_iff.mp hx).1
    obtain ⟨p, hp⟩ : ∃ p, ps[i]? = some p := ⟨ps[i]'(by omega), List.getElem?_eq_getElem (by omega)⟩
    have tk := take_filterMap (f := f) hp
    refine step i x p H hx hp sm _ _ (fun y H'' hy s2 => ⟨_, s2 _ _ hD, szl ?_, same_mut (sm.trans s2) nD, ?_⟩) (fun H'' hn s2 => ⟨sm.trans s2, ?_⟩)
    · have := List.length_filterMap_le f (ps.take i)
      rw [List.length_take] at this
      omega
    · rw [upd_same, tk, hy]; rfl
    · rw [tk, hn, s2 _ _ hD]; simp
  · rintro H ⟨sm, hD⟩
    rw [hl, List.take_length] at hD
    exact h D H nD sm hD
end
theorem k_ixN {K : PySem.W.Frag} {H : Hp} {Q : VK} {p : Addr} {ns : List Int} {i : Nat} {x : Int} (hs : SqL K H p (ns.map V.int)) (hx : ns[i]? = some x) (h : Q (.int x) H) : rIxL K (.ref p) (.int i) H Q := k_ixL hs (atI_nat (by rw [List.getElem?_map, hx]; rfl)) h
theorem fm_map {α : Type} (f : α → V) (l : List α) : l.filterMap (fun x => some (f x)) = l.map f := by
  rw [show (fun x => some (f x)) = some ∘ f from rfl, List.filterMap_eq_map]

/-- what follows a statement is shown once, and lies out of sight meanwhile -/
theorem seqO {s1 s2 : TS} {σ : L2.St} {H : Hp} {nx bk ct : L2.St → Hp → Prop} {rt : VK} (G : L2.St → Hp → Prop) (main : ∀ σ H, G σ H → s2 ⟨nx, rt, bk, ct⟩ σ H) (h : ∀ nx' : L2.St → Hp → Prop, (∀ σ H, G σ H → nx' σ H) → s1 ⟨nx', rt, bk, ct⟩ σ H) : tSeq s1 s2 ⟨nx, rt, bk, ct⟩ σ H := h _ main
/-- the last statement of a block -/
theorem lastO {s1 : TS} {σ : L2.St} {H : Hp} {nx bk ct : L2.St → Hp → Prop} {rt : VK} (G : L2.St → Hp → Prop) (main : ∀ σ H, G σ H → nx σ H) (h : ∀ nx' : L2.St → Hp → Prop, (∀ σ H, G σ H → nx' σ H) → s1 ⟨nx', rt, bk, ct⟩ σ H) : s1 ⟨nx, rt, bk, ct⟩ σ H := h _ main

/-! ### texts -/
def rStrInt : List V → Hp → VK → Prop := fun xs H Q => ∃ i : Int, xs = [.int i] ∧ i.natAbs.log2 < 1920 ∧ Q (.str (toString i)) H
theorem q_strI {X : Cx} : CallR X (.type "str") rStrInt := call_str_int
def xAddS : R2 := fun x y H Q => ∃ i j, x = .str i ∧ y = .str j ∧ i.length + j.length ≤ sizeLine ∧ Q (.str (i ++ j)) H
def rJoin (K : PySem.W.Frag) : V → List V → Hp → VK → Prop := fun x xs H Q => ∃ a p, ∃ ys : List Str, x = .str a ∧ xs = [.ref p] ∧ (SqL K H p (ys.map V.str) ∨ SqT K H p (ys.map V.str)) ∧ (ys.map (·.length)).sum + ys.length * a.length ≤ 16777216 ∧ Q (.str (Txt.join a ys)) H
/-- the signs of a text -/
abbrev sg (s : Str) : List Nat := TL.tl s
def mkS (l : List Nat) : Str := ⟨l.toArray⟩
theorem sg_mkS (l : List Nat) : sg (mkS l) = l := rfl
theorem mkS_sg (s : Str) : mkS (sg s) = s := TL.ext_tl rfl
theorem mkS_inj {l m : List Nat} : mkS l = mkS m ↔ l = m := ⟨fun h => by have := congrArg sg h; rwa [sg_mkS, sg_mkS] at this, fun h => by rw [h]⟩
/-- the signs of a whole number -/
def nu (i : Int) : List Nat := sg (Str.ofString (toString i))
section
variable {K : PySem.W.Frag} {σ : L2.St} {H : Hp} {Q : VK} {to te : TE}
instance {r : V → List V → Hp → VK → Prop} : Stp (tM1 r to te σ H Q) (to σ H fun x H1 => (∃ a, x = .str a) ∧ te σ H1 fun y H2 => r x [y] H2 Q) := ⟨fun h => h⟩
instance {r : V → List V → Hp → VK → Prop} : Stp (tM0 r to σ H Q) (to σ H fun x H1 => (∃ a, x = .str a) ∧ r x [] H1 Q) := ⟨fun h => h⟩
instance {s : Str} {R : Prop} : Stp ((∃ a, V.str s = .str a) ∧ R) R := ⟨fun h => ⟨⟨s, rfl⟩, h⟩⟩
instance : Stp (tLenU K te σ H Q) (te σ H fun x H1 => ∃ (l : Addr) (ns : List Int), x = .ref l ∧ SqL K H1 l (ns.map V.int) ∧ ns.length ≤ 4000 ∧ Q (.int (unl ns : Nat)) H1) := ⟨fun h => h⟩
theorem k_lenU {l : Addr} {ns : List Int} (hs : SqL K H l (ns.map V.int)) (hl : ns.length ≤ 4000) (h : Q (.int (unl ns : Nat)) H) : ∃ (l' : Addr) (ns : List Int), V.ref l = .ref l' ∧ SqL K H l' (ns.map V.int) ∧ ns.length ≤ 4000 ∧ Q (.int (unl ns : Nat)) H := ⟨l, ns, rfl, hs, hl, h⟩
/-- a number of at most thirty figures -/
def Num30 (i : Int) : Prop := 0 ≤ i ∧ i < 10 ^ 30
theorem log_lt {n : Nat} (h : n < 2 ^ 1900) : n.log2 < 1920 := by
  by_cases c : n = 0
  · subst c; decide
  · have := (Nat.log2_lt c (k := 1900)).mpr h
    omega
theorem k_strI {i : Int} (h0 : i.natAbs < 2 ^ 1900) (h : Q (.str (mkS (nu i))) H) : rStrInt [.int i] H Q := ⟨i, rfl, log_lt h0, by unfold nu at h; rw [mkS_sg] at h; exact h⟩
theorem len_sg (s : Str) : s.length = (sg s).length := TL.len_tl s
theorem k_addS {s t : Str} (hz : (sg s).length + (sg t).length ≤ 100000) (h : Q (.str (mkS (sg s ++ sg t))) H) : xAddS (.str s) (.str t) H Q := ⟨s, t, rfl, rfl, by rw [len_sg, len_sg]; exact sz hz, by
  have e : s ++ t = mkS (sg s ++ sg t) := TL.ext_tl (TL.tl_append s t)
  rw [e]; exact h⟩
theorem k_join {s : Str} {p : Addr} {ys : List Str} (hp : SqL K H p (ys.map V.str)) (hz : (ys.map (·.length)).sum + ys.length * s.length ≤ 16777216) (h : Q (.str (mkS (TL.joinL (sg s) (ys.map sg)))) H) : rJoin K (.str s) [.ref p] H Q :=
  ⟨s, p, ys, rfl, rfl, .inl hp, hz, by
    have e : Txt.join s ys = mkS (TL.joinL (sg s) (ys.map sg)) := TL.ext_tl (by rw [TL.join_eq]; exact TL.tl_join s ys)
    rw [e]; exact h⟩
theorem k_isiS {s : Str} (h : Q (.bl true) H) : rIsi K [.str s, .ty "str"] H Q := k_isi (.base (.str s)) (by decide +kernel) h
end
/-! ### more of texts -/
def g_tokS (mg : Str → Option Value) (x : Str) : Tok := match mg x with
  | some (.str _ t) => t
  | _ => default
theorem tok_mkS {mg : Str → Option Value} {x n : Str} {t : Tok} (h : mg x = some (.str n t)) : mg x = some (.str n (g_tokS mg x)) := by
  unfold g_tokS
  rw [h]
theorem q_isiT {X : Cx} : CallR X (.builtin "isinstance") (rIsiT X.K) := call_isiT
def rLenStr : List V → Hp → VK → Prop := fun xs H Q => ∃ z : Str, xs = [.str z] ∧ z.length ≤ sizeLine ∧ Q (.int z.length) H
theorem q_lenS {X : Cx} : CallR X (.builtin "len") rLenStr := call_len_str
def xInS : R2 := fun x y H Q => ∃ i j, x = .str i ∧ y = .str j ∧ Q (.bl (!(Builtin.Str.occurrences j i 0 j.length 1).isEmpty)) H
def xNotInS : R2 := fun x y H Q => ∃ i j, x = .str i ∧ y = .str j ∧ Q (.bl (!(!(Builtin.Str.occurrences j i 0 j.length 1).isEmpty))) H
def rFind : V → List V → Hp → VK → Prop := fun x xs H Q => ∃ a b, x = .str a ∧ xs = [.str b] ∧ Q (.int (Txt.find a b)) H
def rSplit : V → List V → Hp → VK → Prop := fun x xs H Q => ∃ a b, x = .str a ∧ xs = [.str b] ∧ (b.length == 0) = false ∧ a.length + 2 ≤ sizeLine ∧ rNewStrs (Txt.split a b) H Q
section
variable {K : PySem.W.Frag} {σ : L2.St} {H : Hp} {Q : VK} {te : TE}
instance {R : It → Hp → Prop} : Stp (iStr te σ H R) (te σ H fun v H1 => ∃ x, v = .str x ∧ R (Its x) H1) := ⟨fun h => h⟩
theorem k_lenS {l : List Nat} (hl : l.length ≤ 100000) (h : Q (.int (l.length : Nat)) H) : rLenStr [.str (mkS l)] H Q := ⟨_, rfl, by rw [len_sg, sg_mkS]; exact sz hl, by rw [len_sg, sg_mkS]; exact h⟩
theorem k_notInS {l : List Nat} {c : Nat} (h : Q (.bl (!decide (c ∈ l))) H) : xNotInS (.str ⟨#[c]⟩) (.str (mkS l)) H Q := ⟨_, _, rfl, rfl, by
  rw [StrLaws.found_one]; exact h⟩
theorem k_inS {l : List Nat} {c : Nat} (h : Q (.bl (decide (c ∈ l))) H) : xInS (.str ⟨#[c]⟩) (.str (mkS l)) H Q := ⟨_, _, rfl, rfl, by
  rw [StrLaws.found_one]; exact h⟩
theorem k_split {l : List Nat} {s : Str} {ps : List (List Nat)} (hl : l.length ≤ 99000) (hs : s.length ≠ 0) (hp : Txt.split (mkS l) s = ps.map mkS) (h : ∀ p H', H p = none → Same H H' → H' p = some (.lst (ps.map fun q => V.str (mkS q))) → Q (.ref p) H') : rSplit (.str (mkS l)) [.str s] H Q :=
  ⟨_, _, rfl, rfl, by simpa using hs, by rw [len_sg, sg_mkS]; exact sz (by omega), fun p np => h p _ np (same_new np) (by rw [upd_same, hp, List.map_map]; rfl)⟩
theorem k_ixS {l : List Nat} {i : Nat} {c : Nat} (hl : l.length ≤ 100000) (hc : l[i]? = some c) (h : Q (.str ⟨#[c]⟩) H) : rIxS (.str (mkS l)) (.int i) H Q := ⟨_, _, c, rfl, rfl, by rw [len_sg, sg_mkS]; exact sz hl, atI_nat hc, h⟩
end
theorem split_one {s : Nat} {ps : List (List Nat)} (hs : s < 256) (hne : ps ≠ []) (hp : ∀ p ∈ ps, s ∉ p) : Txt.split (mkS (TL.joinL [s] ps)) ⟨#[s]⟩ = ps.map mkS := by
  have e : mkS (TL.joinL [s] ps) = Txt.join ⟨#[s]⟩ (ps.map mkS) := TL.ext_tl (by
    rw [TL.join_eq, TL.tl_join, List.map_map]
    show TL.joinL [s] ps = TL.joinL [s] (ps.map (TL.tl ∘ mkS))
    rw [show (TL.tl ∘ mkS) = id from rfl, List.map_id])
  rw [e]
  refine TL.split_join (s := s) (S := []) rfl (by simp [hs]) (by simpa using hne) fun p h => ?_
  obtain ⟨q, hq, rfl⟩ := List.mem_map.mp h
  exact hp q hq
/-- rows, each with its end, and what stands behind the last end -/
theorem rows_join (rs : List (List Nat)) (e : Nat) (z : List Nat) : (rs.map fun r => r ++ [e]).flatten ++ z = TL.joinL [e] (rs ++ [z]) := by
  induction rs with
  | nil => rfl
  | cons r t ih =>
    have : TL.joinL [e] (r :: (t ++ [z])) = r ++ ([e] ++ TL.joinL [e] (t ++ [z])) := by
      cases t <;> rfl
    rw [List.cons_append, this, ← ih]
    simp
theorem sg_str (s : String) : sg (Str.ofString s) = s.toList.map Char.toNat := TL.tl_ofString s
theorem nu_nat (n : Nat) : nu (n : Int) = TL.numL n := TL.tl_num n
theorem nu_len {i : Int} (h : 0 ≤ i) {k : Nat} (k0 : 0 < k) (h1 : i < 10 ^ k) : (nu i).length ≤ k := by
  obtain ⟨n, rfl⟩ := Int.eq_ofNat_of_zero_le h
  rw [nu_nat]
  unfold TL.numL
  rw [List.length_map]
  refine (Nat.length_toDigits_le_iff (by decide) k0).mpr ?_
  have : ((n : Nat) : Int) < ((10 ^ k : Nat) : Int) := by rw [Int.natCast_pow]; exact h1
  exact Int.ofNat_lt.mp this
/-- signs behind one another -/
theorem joinL_nil (ps : List (List Nat)) : TL.joinL [] ps = ps.flatten := by
  induction ps with
  | nil => rfl
  | cons p r ih => cases r with
    | nil => simp [TL.joinL]
    | cons q r => show p ++ ([] ++ TL.joinL [] (q :: r)) = _; rw [ih]; simp
theorem joinL_cons (S p : List Nat) (r : List (List Nat)) : TL.joinL S (p :: r) = p ++ (r.map fun q => S ++ q).flatten := by
  induction r generalizing p with
  | nil => simp [TL.joinL]
  | cons q r ih => show p ++ (S ++ TL.joinL S (q :: r)) = _; rw [ih]; simp
theorem sum_le {l : List Nat} {b : Nat} (h : ∀ x ∈ l, x ≤ b) : l.sum ≤ l.length * b := by
  induction l with
  | nil => simp
  | cons x r ih =>
    have h1 := ih fun y hy => h y (List.mem_cons_of_mem _ hy)
    have h2 := h x List.mem_cons_self
    rw [List.sum_cons, List.length_cons, Nat.add_mul]
    omega
theorem flat_le {l : List (List Nat)} {b : Nat} (h : ∀ x ∈ l, x.length ≤ b) : l.flatten.length ≤ l.length * b := by
  rw [List.length_flatten]
  have := sum_le (l := l.map List.length) (b := b) fun x hx => by
    obtain ⟨y, hy, rfl⟩ := List.mem_map.mp hx
    exact h y hy
  rw [List.length_map] at this
  exact this
end Cm

namespace Cm
open PySem PySem.Spec PyProof.Rows L2

/-! ### max(d.values()) -/
def tMaxVals (td : TE) : TE := fun σ H Q => td σ H fun x H1 => ∃ (a : Addr) (kvs : List (Key × V)) (is : List Int), x = V.ref a ∧ H1 a = some (.dK kvs) ∧ kvs.map (·.2) = is.map V.int ∧ is ≠ [] ∧ ∀ m, m ∈ is → (∀ j ∈ is, j ≤ m) → Q (.int m) H1
theorem pe_maxVals {X : Cx} {o : Expr} {p pos apos mpos : Pos} {td : TE} (hc : X.calm = true) (hg : Gl X "max") (hm : X.mg "max" = none) (hd : PE X o td) (hbase : attributeBase o "values" X.env (eval o X.env) = eval o X.env := by rfl) (hline : (apos.endLine == mpos.line) = true := by rfl)
    (hse : starEach [Expr.Call (.Attribute o "values" apos) [] [] mpos] X.env = [(false, eval (Expr.Call (.Attribute o "values" apos) [] [] mpos) X.env)] := by rfl) :
    PE X (.Call (.Name "max" p) [.Call (.Attribute o "values" apos) [] [] mpos] [] pos) (tMaxVals td) := by
  constructor
  intro pins s σ H Q I h
  refine wpAny_Call_Name_kw (ld_blt I hg hm (u := .builtin "max") (by first | rfl | decide +kernel) ?_ (by first | decide +kernel | decide) (by first | decide +kernel | decide))
  rw [hse]
  refine PySem.callWith_builtin1 (wpAny_Call_method0_late hbase hline (thn (hd.run pins s σ H _ I h) ?_))
  rintro v s1 ⟨x, H1, I1, r1, a, kvs, is, rfl, ha, hv, hne, q⟩
  obtain rfl : v = Value.ref a := r1
  obtain ⟨_, hsys, vs, rel, dof⟩ := dk_of I1.hok ha
  obtain ⟨ep, dat⟩ := dof.dictAt
  obtain ⟨ob, es, ho, ex, hdat, hko, hpr, hnd⟩ := id dat
  have lv : vs.length = is.length := by
    have e1 : kvs.length = is.length := by simpa using congrArg List.length hv
    rw [← e1]; exact (KV.length rel).symm
  have l0 : 0 < is.length := List.length_pos_iff.mpr hne
  have vals : ∀ (i : Nat) (v : Value), (∃ k, vs[i]? = some (k, v)) → ∃ t, v = Value.int (is.getD i 0) t := by
    rintro i v ⟨k, hk⟩
    obtain ⟨x, h1, h2⟩ := KV.at' rel hk
    have e1 : (is.map V.int)[i]? = some x := by rw [← hv, List.getElem?_map, h1] <;> rfl
    rw [List.getElem?_map] at e1
    obtain ⟨j, hj, rfl⟩ := Option.map_eq_some_iff.mp e1
    obtain ⟨t, e3⟩ := h2
    exact ⟨t, by rw [e3, List.getD_eq_getElem?_getD, hj] <;> rfl⟩
  refine ⟨"dict", "dict.values", F.plainAttrs_dict, F.slot_dict_values, F.type_dict_values, ⟨ob, ho, ex.1⟩, fun b e => by cases e; exact ⟨ob, ho, ex.2.1⟩, Calls.callWith_builtin rfl (PySem.evalArgs_none ?_)⟩
  refine call_meetsIn F.slot_dict_values ⟨ob, ho, ex.1⟩ F.entry_dict_values (F.args_dict_values_1 _) (meets_dict_values (mixKind X.prog X.w) a hsys) ⟨⟨vs, dof⟩, ?_⟩
  have up : ∀ b u, s1.heap.get? b = some u → (s1.heap.push { cls := .type "dict_values", data := .fields #[.ref a] }).get? b = some u := fun b u e => Heap.get?_push_of_some _ e
  have dat1 := dat.keep up
  have alt : a < s1.heap.objs.size := Heap.lt_size ho
  have sz : (s1.heap.push { cls := .type "dict_values", data := .fields #[.ref a] }).objs.size = s1.heap.objs.size + 1 := Heap.size_push _ _
  refine call_max_walk (wpAny_pyIter_values (v := s1.heap.objs.size) (d := a) ⟨_, Heap.get?_push_size _ rfl, rfl, rfl⟩ dat1 ?_)
  refine ⟨_, _, _, _, _, _, _, rfl, Walks.dictValues (knd := mixKind X.prog X.w) (A := X.A.in1) (I.ok.hd hc) (s1.heap.push { cls := .type "dict_values", data := .fields #[.ref a] }).objs.size a (by rw [sz]; exact Nat.ne_of_lt (Nat.lt_succ_of_lt alt)) vs ep,
    ⟨⟨_, Heap.get?_push_size _ rfl, rfl, rfl⟩, dat1.keep fun b u e => Heap.get?_push_of_some _ e⟩, ?_, by omega, CmpOf.ints_gt (fun i => is.getD i 0) vals, ?_⟩
  · intro b hb
    show b < ((s1.heap.push _).push _).objs.size
    rw [Heap.size_push, Heap.size_push]
    rw [sz] at hb
    rcases List.mem_cons.mp hb with e | hb
    · rw [e]; exact Nat.lt_succ_self _
    · rw [show b = a from List.mem_singleton.mp hb]
      exact Nat.lt_succ_of_lt (Nat.lt_succ_of_lt alt)
  · intro v h' tk hP hk
    obtain ⟨t, rfl⟩ := vals _ v hP
    obtain ⟨b1, b2⟩ := argBest_gt (fun i => is.getD i 0) (vs.length - 1)
    refine ⟨.int _, H1, I1.kept (t' := tk) fun b u e => hk b u (fun hmem => ?_) (Heap.get?_push_of_some _ (up b u e)), ⟨t, rfl⟩, q _ ?_ ?_⟩
    · have e1 := List.mem_singleton.mp hmem
      have e2 := Heap.lt_size e
      rw [sz] at e1
      rw [e1] at e2
      exact Nat.lt_irrefl _ (Nat.lt_of_lt_of_le e2 (Nat.le_succ _))
    · have hb : argBest (fun i j => decide (is.getD i 0 > is.getD j 0)) (vs.length - 1) < is.length := by omega
      rw [List.getD_eq_getElem?_getD, List.getElem?_eq_getElem hb]
      exact List.getElem_mem hb
    · intro j hj
      obtain ⟨i, hi, rfl⟩ := List.mem_iff_getElem.mp hj
      have e2 : is.getD i 0 = is[i] := by rw [List.getD_eq_getElem?_getD, List.getElem?_eq_getElem hi] <;> rfl
      rw [← e2]
      exact b2 i (by omega)

/-! ### fields and methods of an instance -/
section
variable {K : PySem.W.Frag} {σ : L2.St} {H : Hp} {Q : VK} {ta tv : TE} {t : TA} {f m : Str} {a C dx : Addr} {fs : List (Str × V)}
/-- x.f is read -/
def gF (K : PySem.W.Frag) (f : Str) (x : V) (H : Hp) (Q : VK) : Prop := ∃ a C dx fs v, x = .ref a ∧ H a = some (.ins C dx fs) ∧ Cls K C ∧ NoAttr K C f ∧ fs.lookup f = some v ∧ Q v H
instance : Stp (tFld K ta f σ H Q) (ta σ H fun x H1 => gF K f x H1 Q) := ⟨id⟩
theorem k_gF {v : V} (e : H a = some (.ins C dx fs)) (c : Cls K C) (n : NoAttr K C f) (l : fs.lookup f = some v) (h : Q v H) : gF K f (.ref a) H Q := ⟨a, C, dx, fs, v, rfl, e, c, n, l, h⟩
/-- x.f = y is written -/
def pF (K : PySem.W.Frag) (f : Str) (x y : V) (H : Hp) (N : Hp → Prop) : Prop := ∃ a C dx fs, x = .ref a ∧ H a = some (.ins C dx fs) ∧ Cls K C ∧ NoAttr K C f ∧ fs.length < 1000 ∧ N (upd H a (.ins C dx (putF f y fs)))
instance {nx bk ct : L2.St → Hp → Prop} {rt : VK} : Stp (sFld K ta tv f ⟨nx, rt, bk, ct⟩ σ H) (tv σ H fun y H1 => ta σ H1 fun x H2 => pF K f x y H2 (nx σ)) := ⟨id⟩
theorem k_pF {y : V} {N : Hp → Prop} (e : H a = some (.ins C dx fs)) (c : Cls K C) (n : NoAttr K C f) (l : fs.length < 1000) (h : N (upd H a (.ins C dx (putF f y fs)))) : pF K f (.ref a) y H N := ⟨a, C, dx, fs, rfl, e, c, n, l, h⟩
/-- x.m is a method's call -/
def mF (C : Addr) (m : Str) (x : V) (H : Hp) (P : Prop) : Prop := ∃ a dx fs, x = .ref a ∧ H a = some (.ins C dx fs) ∧ fs.lookup m = none ∧ P
instance {sp : Sp} {E : XK} : Stp (tMeth C m sp [] E ta t σ H Q) (ta σ H fun x H1 => mF C m x H1 (t σ H1 fun vs H2 => sp (x :: vs) H2 Q E)) := ⟨fun h => by
  unfold tMeth
  simp only [List.append_nil]
  exact h⟩
theorem k_mF {P : Prop} (e : H a = some (.ins C dx fs)) (l : fs.lookup m = none) (h : P) : mF C m (.ref a) H P := ⟨a, dx, fs, rfl, e, l, h⟩
/-- a new instance -/
def newI (C : Addr) (sp : Sp) (E : XK) (vs : List V) (H : Hp) (Q : VK) : Prop := ∀ x dx, H x = none → H dx = none → dx ≠ x → sp (.ref x :: vs) (upd (upd H dx (.own x)) x (.ins C dx [])) (fun v H2 => v = .non ∧ Q (.ref x) H2) E
instance {sp : Sp} {E : XK} : Stp (tMake C sp [] E t σ H Q) (t σ H fun vs H1 => newI C sp E vs H1 Q) := ⟨fun h => by
  unfold tMake
  simp only [List.append_nil]
  exact h⟩
end

/-! ### methods and makings that may raise, in a try -/
section
variable {X : Cx} {CX : CXT} {k : Nat} {f C : Addr} {fd : FuncData} {ps : List Str} {sp : Sp} {E : L2.St → XK} {x m : Str} {p pos apos : Pos} {e o : Expr} {es : List Expr} {ta : TE} {t : TA}
def tMtS (C : Addr) (m : Str) (sp : Sp) (E : L2.St → XK) (ta : TE) (t : TA) : TE := fun σ H Q => ta σ H fun x H1 => ∃ a dx fs, x = .ref a ∧ H1 a = some (.ins C dx fs) ∧ fs.lookup m = none ∧ t σ H1 fun vs H2 => sp (x :: vs) H2 Q (E σ)
theorem pe_mtS {pl : Sem Bool} (he : PE X o ta) (c : Cls X.K C) (hm : Meth X.K C m f) (F : FnOk X.prog X.w X.K X.mg X.base CX k f fd ps sp) (hr : Room k X.A) (hb : Binds X.K fd ps []) (hx : ∀ σ, PassesAt CX X σ (E σ)) (ha : PA X (e :: es) t)
    (hst : starEach (e :: es) X.env = (false, eval e X.env) :: starEach es X.env := by rfl) (hpl : (backTo pos (starEach es X.env)).any (·.1) = false := by rfl)
    (ht : eval (.Call (.Attribute o m apos) (e :: es) [] pos) X.env = (do
      let ov ← eval o X.env
      standAt apos.atName
      let (f, first) ← holding [ov] (getMethod ov m pl)
      callWith pos f first (backTo pos (starEach (e :: es) X.env)) (backToKw pos (keywordEach [] X.env))) := by rfl) :
    PE X (.Call (.Attribute o m apos) (e :: es) [] pos) (tMtS C m sp E ta t) := by
  refine ⟨fun pins s σ H Q I h => ?_⟩
  refine PySem.W.methodCall_KW (pl := pl) (thn (he.run pins s σ H _ I h) fun u s1 ⟨x, H1, I1, rx, a, dx, fs, ex, ea, l, q⟩ => ?_) ht
  subst ex
  obtain rfl : u = Value.ref a := rx
  refine getmeth_ok I1 ea c hm l ?_
  refine PySem.W.callWith_K (first := [.ref a]) (h₀ := X.base) I.ok.mod.kin hm.kp (thn (ha.run pos pins s1 σ H1 _ I1 q) fun us s2 ⟨vs, H2, I2, r, q2⟩ => ⟨I2.kIn, ?_⟩) hst hpl
  exact run_fnS (us := .ref a :: us) (vs := .ref a :: vs) F hr hb (hx σ) I2 (.cons rfl r) q2
def tMakeS (C : Addr) (sp : Sp) (E : L2.St → XK) (t : TA) : TE := fun σ H Q => t σ H fun vs H1 => ∀ x dx, H1 x = none → H1 dx = none → dx ≠ x → sp (.ref x :: vs) (upd (upd H1 dx (.own x)) x (.ins C dx [])) (fun v H2 => v = .non ∧ Q (.ref x) H2) (E σ)
theorem pe_makeS (M : Mk X.K C f) (F : FnOk X.prog X.w X.K X.mg X.base CX k f fd ps sp) (hr : Room (k + 1) X.A) (hg : Gl X x) (hm : X.mg x = some (.ref C)) (hb : Binds X.K fd ps []) (hx : ∀ σ, PassesAt CX X σ (E σ))
    (ha : PA X (e :: es) t) (hdb : (x == ("__debug__" : Str)) = false := by decide) (he : starEach (e :: es) X.env = (false, eval e X.env) :: starEach es X.env := by rfl) (hpl : (backTo pos (starEach es X.env)).any (·.1) = false := by rfl) :
    PE X (.Call (.Name x p) (e :: es) [] pos) (tMakeS C sp E t) := by
  refine ⟨fun pins s σ H Q I h => ?_⟩
  refine wpAny_Call_Name_kw (ld_glob I hg hm ?_ hdb)
  refine PySem.W.callWith_K (h₀ := X.base) I.ok.mod.kin M.kp (thn (ha.run pos pins s σ H _ I h) fun us s1 ⟨vs, H1, I1, r, q⟩ => ⟨I1.kIn, ?_⟩) he hpl
  have hq := q (s1.heap.objs.size + 1) s1.heap.objs.size (I1.hok.fresh (Nat.le_succ _)) (I1.hok.fresh (Nat.le_refl _)) (Nat.ne_of_lt (Nat.lt_succ_self _))
  have I2 := Inv.made (C := C) I1
  have r2 : Vals (V.ref (s1.heap.objs.size + 1) :: vs) (Value.ref (s1.heap.objs.size + 1) :: us) := .cons rfl r
  have hl : (Value.ref (s1.heap.objs.size + 1) :: us ++ []).length = ps.length := by
    have e := r2.length
    rw [F.len _ _ _ _ hq] at e
    rw [List.append_nil]
    exact e.symm
  have b := hb _ (Value.ref (s1.heap.objs.size + 1) :: us) I2.kIn hl
  rw [List.append_nil] at b
  refine wpAny_call (make_map (f := f) I1.kIn M.makes M.init (beq_iff_eq.mp M.fn) (codeAny_mono (F.run _ X.stack _ _ ⟨Value.ref (s1.heap.objs.size + 1) :: us, []⟩ (Value.ref (s1.heap.objs.size + 1) :: us) _ _ (E σ) (hr.make C us [])
    (I2.env0.make C us []) b r2 hq) fun r s' hq' => ?_))
  cases r with
  | error e => exact hx σ pins _ _ e s' I2 hq'
  | ok fl =>
    cases fl with
    | ret u =>
      obtain ⟨v, H', I3, rv, ev, q3⟩ := I2.after hq'
      subst ev
      exact ⟨rv, ⟨V.ref (s1.heap.objs.size + 1), H', I3, rfl, q3⟩⟩
    | next => exact False.elim hq'
    | brk => exact False.elim hq'
    | cont => exact False.elim hq'
end
section
variable {σ : L2.St} {H : Hp} {Q : VK} {ta : TE} {t : TA} {m : Str} {C : Addr}
instance {sp : Sp} {E : L2.St → XK} : Stp (tMtS C m sp E ta t σ H Q) (ta σ H fun x H1 => mF C m x H1 (t σ H1 fun vs H2 => sp (x :: vs) H2 Q (E σ))) := ⟨id⟩
instance {sp : Sp} {E : L2.St → XK} : Stp (tMakeS C sp E t σ H Q) (t σ H fun vs H1 => newI C sp (E σ) vs H1 Q) := ⟨id⟩
end
/-! ### a comprehension over a range whose items are new things, each by itself -/
section
variable {K : PySem.W.Frag} {σ : L2.St} {H1 : Hp} {Q : VK} {g : TG} {tt : TT} {te : TE} {vs : List Nat}
theorem lc_rowsR {QD : Addr → Hp → Prop} {lo : Int} {n : Nat} (hz : n ≤ 50000) (F : Nat → HO)
    (step : ∀ (i : Nat) H', i < n → Same H1 H' → ∀ (R : V → Hp → Prop) (R0 : Hp → Prop), (∀ p H'', H' p = none → Same H' H'' → H'' p = some (F i) → R (.ref p) H'') →
      g (.int (lo + (i : Nat))) (wipe σ vs) H' fun σ2 H2 => wipe σ2 vs = wipe σ vs ∧ tt σ2 H2 fun b H3 => if b = true then te σ2 H3 R else R0 H3)
    (h : ∀ (D : Addr) (rs : List Addr) (H' : Hp), H1 D = none → Same H1 H' → H' D = some (.lst (rs.map V.ref)) → rs.length = n → rs.Nodup → D ∉ rs → (∀ r ∈ rs, H1 r = none) → (∀ (j : Nat) r, rs[j]? = some r → H' r = some (F j)) → QD D H') :
    ∀ D, H1 D = none → ∃ W : Nat → Nat → Hp → Prop, (∃ m, W 0 m (upd H1 D (.lst []))) ∧ ∀ i m H, W i m H →
      ((Itr lo n).stop i H ∧ QD D H) ∨ ((Itr lo n).go i H ∧ ∃ Nx : Hp → Prop, (∀ H', Nx H' → ∃ m', m' < m ∧ W (i + 1) m' H') ∧ ∀ x H', (Itr lo n).yld i H x H' → g x (wipe σ vs) H' fun σ2 H2 => wipe σ2 vs = wipe σ vs ∧ tt σ2 H2 fun b H3 =>
        if b = true then te σ2 H3 fun y H4 => ∃ acc, H4 D = some (.lst acc) ∧ acc.length < sizeLine ∧ Nx (upd H4 D (.lst (acc ++ [y]))) else Nx H3) := by
  refine fun D nD => lc_range (fun i H => Same H1 H ∧ ∃ rs : List Addr, H D = some (.lst (rs.map V.ref)) ∧ rs.length = i ∧ rs.Nodup ∧ D ∉ rs ∧ (∀ r ∈ rs, H1 r = none) ∧ ∀ (j : Nat) r, rs[j]? = some r → H r = some (F j))
    ⟨same_new nD, [], by rw [upd_same]; rfl, rfl, List.nodup_nil, by simp, (fun r z => by cases z), (fun j r z => by simp at z)⟩ ?_ ?_
  · rintro i H hi ⟨sm, rs, hD, lr, nd, dr, fr, at_⟩
    refine step i H hi sm _ _ (fun p H'' np s2 ep => ⟨_, s2 _ _ hD, szl (by simp; omega), same_mut (sm.trans s2) nD, rs ++ [p], ?_, by simp [lr], ?_, ?_, ?_, ?_⟩)
    · rw [upd_same, List.map_append]; rfl
    · rw [List.nodup_append]
      refine ⟨nd, by simp, fun r hr q hq e => ?_⟩
      rw [List.mem_singleton.mp hq] at e
      subst e
      obtain ⟨j, hj⟩ := List.mem_iff_getElem?.mp hr
      rw [at_ j _ hj] at np
      cases np
    · intro z
      rcases List.mem_append.mp z with z | z
      · exact dr z
      · rw [List.mem_singleton.mp z] at hD
        rw [hD] at np
        cases np
    · intro r hr
      rcases List.mem_append.mp hr with hr | hr
      · exact fr r hr
      · rw [List.mem_singleton.mp hr]; exact sm.free np
    · intro j r hr
      have rD : r ≠ D := fun e => by
        rcases List.mem_append.mp (List.mem_of_getElem? hr) with z | z
        · exact dr (e ▸ z)
        · rw [List.mem_singleton.mp z] at e
          rw [e, hD] at np
          cases np
      rw [upd_ne rD]
      by_cases c : j < rs.length
      · rw [List.getElem?_append_left c] at hr
        exact s2 _ _ (at_ j r hr)
      · have hj : j = i := by
          have := (List.getElem?_eq_some_iff.mp hr).1
          simp at this
          omega
        subst hj
        rw [List.getElem?_append_right (by omega), lr, Nat.sub_self] at hr
        cases hr
        exact ep
  · rintro H ⟨sm, rs, hD, lr, nd, dr, fr, at_⟩
    exact h D rs H nD sm hD lr nd dr fr at_
end
/-! ### dicts with whole numbers for keys -/
section
variable {σ : L2.St} {H : Hp} {Q : VK} {td ty tx tv : TE} {p : Addr} {kvs : List (Key × V)} {t : Int} {v z : V} {nx bk ct : L2.St → Hp → Prop} {rt : VK}
def newD (H : Hp) (Q : VK) : Prop := ∀ p, H p = none → Q (.ref p) (upd H p (.dK []))
instance : Stp (tDNewK σ H Q) (newD H Q) := ⟨id⟩
theorem kD (h : ∀ p H', H p = none → Same H H' → H' p = some (.dK []) → Q (.ref p) H') : newD H Q := fun p np => h p _ np (same_new np) upd_same
def aD (x : V) (H : Hp) (R : Addr → Prop) : Prop := ∃ a, x = .ref a ∧ IsD H a ∧ R a
def gD2 (a : Addr) (y z : V) (H : Hp) (Q : VK) : Prop := ∃ o, DGet H a y o ∧ Q (o.getD z) H
instance : Stp (tDGet2 td ty tx σ H Q) (td σ H fun x H1 => aD x H1 fun a => ty σ H1 fun y H2 => tx σ H2 fun z H3 => gD2 a y z H3 Q) := ⟨id⟩
theorem k_aD {R : Addr → Prop} (e : H p = some (.dK kvs)) (h : R p) : aD (.ref p) H R := ⟨p, rfl, .inl ⟨kvs, .inl e⟩, h⟩
theorem k_gD2 (e : H p = some (.dK kvs)) (h : Q ((valV kvs (.inl t)).getD z) H) : gD2 p (.int t) z H Q := ⟨_, DGet.k (k := .inl t) e, h⟩
def pD (x y v : V) (H : Hp) (N : Hp → Prop) : Prop := ∃ a H4, x = .ref a ∧ DPut H a y v H4 ∧ N H4
instance : Stp (sDPut td ty tv ⟨nx, rt, bk, ct⟩ σ H) (tv σ H fun v H1 => td σ H1 fun x H2 => ty σ H2 fun y H3 => pD x y v H3 (nx σ)) := ⟨id⟩
theorem k_pD {N : Hp → Prop} (e : H p = some (.dK kvs)) (l : kvs.length < 100000) (h : N (upd H p (.dK (putK kvs (.inl t) v)))) : pD (.ref p) (.int t) v H N := ⟨p, _, rfl, DPut.k (k := .inl t) e (szl l), h⟩
def gMx (x : V) (H : Hp) (Q : VK) : Prop := ∃ (a : Addr) (kvs : List (Key × V)) (is : List Int), x = V.ref a ∧ H a = some (.dK kvs) ∧ kvs.map (·.2) = is.map V.int ∧ is ≠ [] ∧ ∀ m, m ∈ is → (∀ j ∈ is, j ≤ m) → Q (.int m) H
instance : Stp (tMaxVals td σ H Q) (td σ H fun x H1 => gMx x H1 Q) := ⟨id⟩
theorem k_gMx {is : List Int} (e : H p = some (.dK kvs)) (hv : kvs.map (·.2) = is.map V.int) (ne : is ≠ []) (h : ∀ m, m ∈ is → (∀ j ∈ is, j ≤ m) → Q (.int m) H) : gMx (.ref p) H Q := ⟨p, kvs, is, rfl, e, hv, ne, h⟩
end
/-! ### list.insert -/
def rIns : V → List V → Hp → VK → Prop := fun x vs H Q => ∃ (l : Addr) (xs : List V) (i : Int) (y : V), x = .ref l ∧ vs = [.int i, y] ∧ H l = some (.lst xs) ∧ xs.length < sizeLine ∧ 0 ≤ i ∧ i < 2 ^ 63 ∧ Q .non (upd H l (.lst (xs.take i.toNat ++ [y] ++ xs.drop i.toNat)))
theorem k_ins {H : Hp} {Q : VK} {l : Addr} {xs : List V} {i : Int} {y : V} (e : H l = some (.lst xs)) (hl : xs.length < 100000) (h0 : 0 ≤ i) (h1 : i < 1000000) (h : Q .non (upd H l (.lst (xs.take i.toNat ++ [y] ++ xs.drop i.toNat)))) : rIns (.ref l) [.int i, y] H Q := ⟨l, xs, i, y, rfl, rfl, e, szl hl, h0, by omega, h⟩
/-! ### reads of a dict, loops over its keys -/
section
variable {σ : L2.St} {H : Hp} {Q : VK} {td ty : TE} {p : Addr} {kvs : List (Key × V)} {t : Int} {v : V} {nx bk ct : L2.St → Hp → Prop} {rt : VK}
def gD1 (x y : V) (H : Hp) (Q : VK) : Prop := ∃ a v, x = .ref a ∧ DGet H a y (some v) ∧ Q v H
instance : Stp (tDGet td ty σ H Q) (td σ H fun x H1 => ty σ H1 fun y H2 => gD1 x y H2 Q) := ⟨id⟩
theorem k_gD1 (e : Rd H p (.dK kvs)) (hv : valV kvs (.inl t) = some v) (h : Q v H) : gD1 (.ref p) (.int t) H Q := ⟨p, v, rfl, .inl ⟨kvs, .inl t, e, rfl, hv.symm⟩, h⟩
theorem upd_self {H : Hp} {d : Addr} {u : HO} (h : H d = some u) : upd H d u = H := by
  funext b
  unfold upd
  split
  · rename_i e; rw [e, h]
  · rfl
/-- a for over the keys of a dict of numbers; the heap stays -/
theorem forD {g : TG} {tb : TS} {D : Ends} (hd : H p = some (.dK kvs)) (Pv : Nat → L2.St → Prop) (h0 : Pv 0 σ)
    (htd : ∀ (R : V → Hp → Prop) od, R (.ref p) (upd H p (.frz od (.dK kvs))) → td σ (upd H p (.frz od (.dK kvs))) R)
    (hs : ∀ (od : Obj) (i : Nat) k v σ, kvs[i]? = some (k, v) → Pv i σ → ∀ (N B C : L2.St → Hp → Prop) (rt : VK), (∀ σ', Pv (i + 1) σ' → N σ' (upd H p (.frz od (.dK kvs)))) → (∀ v, D.rt v H → rt v (upd H p (.frz od (.dK kvs)))) →
      g (kV k) σ (upd H p (.frz od (.dK kvs))) fun σ2 H2 => tb ⟨N, rt, B, C⟩ σ2 H2)
    (fin : ∀ σ', Pv kvs.length σ' → D.nx σ' H) : tLock (tFor (iKeys td) g tb) D σ H := by
  refine ⟨p, .dK kvs, hd, trivial, fun od => ?_⟩
  refine htd _ od ⟨p, od, rfl, .inl ⟨kvs, upd_same, ?_⟩⟩
  have back : upd (upd H p (.frz od (.dK kvs))) p (.dK kvs) = H := by rw [upd_upd, upd_self hd]
  refine for_it walk_keys (fun i σ' H' => H' = upd H p (.frz od (.dK kvs)) ∧ Pv i σ') ⟨rfl, h0⟩ (fun i σ' H' _ e => by rw [e.1]; exact upd_same) ?_ ?_
  · rintro i x σ' H' H'' hi ⟨rfl, pv⟩ ⟨rfl, k, v, hkv, rfl⟩
    exact hs od i k v σ' hkv pv _ _ _ _ (fun σ' h => ⟨rfl, h⟩) (fun v h => ⟨upd_same, by rw [back]; exact h⟩)
  · rintro σ' H' ⟨rfl, pv⟩
    exact ⟨upd_same, by rw [back]; exact fin σ' pv⟩
end
/-- a dict of counts -/
structure Cnt (kvs : List (Key × V)) (c : Int → Nat) (m : Nat) : Prop where
  isI : ∃ is : List Int, kvs.map (·.2) = is.map V.int
  val : ∀ t, valV kvs (.inl t) = if c t = 0 then none else some (.int (c t : Nat))
  len : kvs.length ≤ m
theorem Cnt.nil : Cnt [] (fun _ => 0) 0 := ⟨⟨[], rfl⟩, fun t => by rw [valV_nil]; rfl, Nat.le_refl _⟩
theorem putK_lenN (c : List (Key × V)) (k : Key) (x : V) : (putK c k x).length ≤ c.length + 1 := by
  unfold putK
  split
  · rw [List.length_map]; omega
  · rw [List.length_append]; simp
theorem mapK_ints {k : Key} {x : Int} : ∀ (kvs : List (Key × V)) (is : List Int), kvs.map (·.2) = is.map V.int → ∃ is : List Int, (kvs.map fun kv => if kv.1 = k then (kv.1, V.int x) else kv).map (·.2) = is.map V.int
  | [], _, _ => ⟨[], rfl⟩
  | a :: r, [], h => by simp at h
  | a :: r, j :: js, h => by
    simp only [List.map_cons, List.cons.injEq] at h
    obtain ⟨is', h'⟩ := mapK_ints r js h.2
    by_cases c : a.1 = k
    · exact ⟨x :: is', by rw [List.map_cons, List.map_cons, if_pos c, h']; rfl⟩
    · exact ⟨j :: is', by rw [List.map_cons, List.map_cons, if_neg c, h', h.1]; rfl⟩
theorem putK_ints {kvs : List (Key × V)} {k : Key} {x : Int} (h : ∃ is : List Int, kvs.map (·.2) = is.map V.int) : ∃ is : List Int, (putK kvs k (.int x)).map (·.2) = is.map V.int := by
  obtain ⟨is, h⟩ := h
  unfold putK
  split
  · exact mapK_ints kvs is h
  · exact ⟨is ++ [x], by rw [List.map_append, List.map_append, h]; rfl⟩
theorem Cnt.put {kvs : List (Key × V)} {c : Int → Nat} {m : Nat} (h : Cnt kvs c m) (t : Int) {x : Int} (hx : x = ((c t + 1 : Nat) : Int)) : Cnt (putK kvs (.inl t) (.int x)) (fun s => if s = t then c s + 1 else c s) (m + 1) := by
  obtain ⟨h1, h2, h3⟩ := h
  refine ⟨putK_ints h1, fun s => ?_, Nat.le_trans (putK_lenN _ _ _) (by omega)⟩
  rw [valV_put]
  by_cases e : s = t
  · subst e
    rw [if_pos rfl, if_pos rfl, if_neg (by omega), hx]
  · rw [if_neg (fun z => e (by simpa using z)), if_neg e]
    exact h2 s
theorem Cnt.get {kvs : List (Key × V)} {c : Int → Nat} {m : Nat} (h : Cnt kvs c m) (t : Int) : (valV kvs (.inl t)).getD (.int 0) = .int (c t : Nat) := by
  rw [h.val t]
  split
  · rename_i e
    rw [e]; rfl
  · rfl
theorem Cnt.mem {kvs : List (Key × V)} {c : Int → Nat} {m : Nat} (h : Cnt kvs c m) {is : List Int} (hi : kvs.map (·.2) = is.map V.int) {t : Int} (ht : c t ≠ 0) : ((c t : Nat) : Int) ∈ is := by
  have hv := h.val t
  rw [if_neg ht] at hv
  unfold valV at hv
  obtain ⟨kv, hk, e⟩ := Option.map_eq_some_iff.mp hv
  have hm : V.int ((c t : Nat) : Int) ∈ is.map V.int := by
    rw [← hi, ← e]
    exact List.mem_map_of_mem (List.mem_of_find?_eq_some hk)
  obtain ⟨y, hy, e2⟩ := List.mem_map.mp hm
  cases e2
  exact hy
theorem Cnt.ext {kvs : List (Key × V)} {c c' : Int → Nat} {m m' : Nat} (h : Cnt kvs c m) (e : ∀ t, c t = c' t) (l : m ≤ m') : Cnt kvs c' m' := by
  obtain rfl : c = c' := funext e
  exact ⟨h.isI, h.val, Nat.le_trans h.len l⟩
/-! ### a list told by its places -/
theorem getR {n l : Nat} {f : Nat → Int} (h : l < n) : ((List.range n).map f)[l]? = some (f l) := by
  rw [List.getElem?_map, List.getElem?_range h]; rfl
theorem setR {n l : Nat} {f : Nat → Int} {v : Int} : ((List.range n).map f).set l v = (List.range n).map fun j => if j = l then v else f j := by
  refine List.ext_getElem? fun k => ?_
  rw [List.getElem?_set]
  by_cases c : l = k
  · subst c
    rw [if_pos rfl]
    by_cases d : l < n
    · rw [if_pos (by simpa using d), getR d, if_pos rfl]
    · rw [if_neg (by simpa using d), List.getElem?_eq_none (by simpa using d)]
  · rw [if_neg c]
    by_cases d : k < n
    · rw [getR d, getR d, if_neg (fun e => c e.symm)]
    · rw [List.getElem?_eq_none (by simpa using d), List.getElem?_eq_none (by simpa using d)]
/-! ### a range with a step; bits to the right -/
instance {σ : L2.St} {H : Hp} {ta : TA} {R : It → Hp → Prop} : Stp (iRng3 ta σ H R) (ta σ H fun vs H1 => ∃ (i j c : Int) (n : Nat), vs = [.int i, .int j, .int c] ∧ RgC i j c n ∧ R (Itc i c n) H1) := ⟨id⟩
theorem forC {σ : L2.St} {H : Hp} {nx : L2.St → Hp → Prop} {rt : VK} {lo c : Int} {n : Nat} {g : TG} {tb : TS} (Pv : Nat → L2.St → Hp → Prop) (h0 : Pv 0 σ H)
    (hs : ∀ (i : Nat) σ H, i < n → Pv i σ H → g (.int (lo + (i : Nat) * c)) σ H fun σ2 H2 => tb ⟨Pv (i + 1), rt, nx, Pv (i + 1)⟩ σ2 H2) (hd : ∀ σ H, Pv n σ H → nx σ H) :
    ∃ W : Nat → Nat → L2.St → Hp → Prop, (∃ m, W 0 m σ H) ∧ ∀ i m σ H, W i m σ H →
      ((Itc lo c n).stop i H ∧ nx σ H) ∨ ((Itc lo c n).go i H ∧ ∃ N : L2.St → Hp → Prop, (∀ σ' H', N σ' H' → ∃ m', m' < m ∧ W (i + 1) m' σ' H') ∧ ∀ x H', (Itc lo c n).yld i H x H' → g x σ H' fun σ2 H2 => tb ⟨N, rt, nx, N⟩ σ2 H2) :=
  for_rangeC (D := ⟨nx, rt, fun _ _ => False, fun _ _ => False⟩) Pv h0 hs hd
def xShr : R2 := rI (fun _ j => 0 ≤ j) fun i j => .int (i / 2 ^ j.toNat)
theorem k_shr {H : Hp} {Q : VK} {i j : Int} (hc : 0 ≤ j) (h : Q (.int (i / 2 ^ j.toNat)) H) : xShr (.int i) (.int j) H Q := ⟨i, j, rfl, rfl, hc, h⟩
/-! ### dict(d), len(d), k in d -/
def rDictD : List V → Hp → VK → Prop := fun xs H Q => ∃ (a : Addr) (kvs : List (Key × V)), xs = [.ref a] ∧ Rd H a (.dK kvs) ∧ ∀ p, H p = none → Q (.ref p) (upd H p (.dK kvs))
theorem q_dictD {X : Cx} : CallR X (.type "dict") rDictD := call_dictD
def rLenD : List V → Hp → VK → Prop := fun xs H Q => ∃ (a : Addr) (kvs : List (Key × V)), xs = [V.ref a] ∧ H a = some (.dK kvs) ∧ Q (.int kvs.length) H
theorem q_lenD {X : Cx} : CallR X (.builtin "len") rLenD := call_lenD
section
variable {σ : L2.St} {H : Hp} {Q : VK} {td ty : TE} {p : Addr} {kvs : List (Key × V)} {t : Int}
def iD (neg : Bool) (y x : V) (H : Hp) (Q : VK) : Prop := ∃ a o, x = .ref a ∧ DGet H a y o ∧ Q (.bl (if neg then !o.isSome else o.isSome)) H
instance : Stp (tDIn ty td σ H Q) (ty σ H fun y H1 => td σ H1 fun x H2 => iD false y x H2 Q) := ⟨id⟩
instance : Stp (tDNotIn ty td σ H Q) (ty σ H fun y H1 => td σ H1 fun x H2 => iD true y x H2 Q) := ⟨id⟩
theorem k_iD {neg : Bool} (e : H p = some (.dK kvs)) (h : Q (.bl (if neg then !(valV kvs (.inl t)).isSome else (valV kvs (.inl t)).isSome)) H) : iD neg (.int t) (.ref p) H Q := ⟨p, _, rfl, DGet.k (k := .inl t) e, h⟩
theorem k_dictD (e : H p = some (.dK kvs)) (h : ∀ q H', H q = none → Same H H' → H' q = some (.dK kvs) → Q (.ref q) H') : rDictD [.ref p] H Q := ⟨p, kvs, rfl, .inl e, fun q nq => h q _ nq (same_new nq) upd_same⟩
theorem k_lenD (e : H p = some (.dK kvs)) (h : Q (.int kvs.length) H) : rLenD [.ref p] H Q := ⟨p, kvs, rfl, e, h⟩
end
theorem u65 {k : Nat} {A : Around} (r : Room k A) : A.units + 65 < cLine := by have := r.un; omega
end Cm

namespace HT
open PySem PySem.Spec PyProof.Rows
section
variable {prog : Program} {w : World} {A : Around} {E : Value → Shared → Prop} {s : Shared}
/-! ### t[::-1] -/
theorem sliceApplied_rev {sl : Addr} {vs : Value} {n : Nat} {Q : Int × Int × Nat → Shared → Prop} (hs : s.heap.IsSliceOf sl .none .none vs) (ps : IsPart vs (some (-1)))
    (h : Q ((n : Int) - 1, -1, n) s) : wpAny (model prog w) A (Builtin.Slice.sliceApplied (.ref sl) (pure (n : Int))) Q E s := by
  obtain ⟨os, hos, hcs, hds⟩ := id hs
  unfold Builtin.Slice.sliceApplied Builtin.Slice.sliceFields
  refine wpAny_bind (wpAny_bind (wpAny_field hos hds (x := .none) rfl (wpAny_bind (wpAny_field hos hds (x := .none) rfl (wpAny_bind (wpAny_field hos hds (x := vs) rfl (wpAny_pure ?_)))))))
  refine wpAny_bind (slicePart_ ps ?_)
  show wpAny _ _ (if ((-1 : Int) == 0) = true then _ else _) _ _ s
  rw [if_neg (by decide)]
  refine wpAny_bind (slicePart_none (wpAny_bind (slicePart_none (wpAny_bind (wpAny_pure ?_)))))
  show wpAny _ _ (match Builtin.Slice.sliceAdjust none none (-1) (n : Int) with | (lo, hi) => pure (lo, (-1 : Int), Builtin.Slice.slicePlaces lo hi (-1))) _ _ s
  rw [show Builtin.Slice.sliceAdjust none none (-1) (n : Int) = ((n : Int) - 1, -1) by unfold Builtin.Slice.sliceAdjust; simp]
  show wpAny _ _ (pure ((n : Int) - 1, (-1 : Int), Builtin.Slice.slicePlaces ((n : Int) - 1) (-1) (-1))) _ _ s
  have e : Builtin.Slice.slicePlaces ((n : Int) - 1) (-1) (-1) = n := by
    unfold Builtin.Slice.slicePlaces
    rw [if_neg (by decide)]
    split
    · rw [show (- -1 : Int) = 1 by decide, Int.ediv_one]; omega
    · omega
  rw [e]
  exact wpAny_pure h
theorem fm_congr {α β : Type} {f g : α → Option β} : ∀ l : List α, (∀ x ∈ l, f x = g x) → l.filterMap f = l.filterMap g
  | [], _ => rfl
  | a :: r, h => by
    rw [List.filterMap_cons, List.filterMap_cons, h a List.mem_cons_self, fm_congr r fun x hx => h x (List.mem_cons_of_mem _ hx)]
theorem pick_rev (xs : Array Value) : ((List.range xs.size).filterMap fun (m : Nat) => xs[((xs.size : Int) - 1 + (m : Int) * -1).toNat]?).toArray = xs.toList.reverse.toArray := by
  congr 1
  refine List.ext_getElem? fun i => ?_
  have e : (List.range xs.size).filterMap (fun (m : Nat) => xs[((xs.size : Int) - 1 + (m : Int) * -1).toNat]?) = (List.range xs.size).map fun m => xs.toList.getD (xs.size - 1 - m) .none := by
    rw [← List.filterMap_eq_map]
    refine fm_congr _ fun m hm => ?_
    have hm' := List.mem_range.mp hm
    have : ((xs.size : Int) - 1 + (m : Int) * -1).toNat = xs.size - 1 - m := by omega
    rw [this]
    have hl : xs.size - 1 - m < xs.size := by omega
    simp [List.getD_eq_getElem?_getD, hl]
  rw [e, List.getElem?_map]
  by_cases c : i < xs.size
  · rw [List.getElem?_range c, List.getElem?_reverse (by simpa using c)]
    have hl : xs.size - 1 - i < xs.size := by omega
    simp [List.getD_eq_getElem?_getD, hl]
  · rw [List.getElem?_eq_none (by simpa using c), List.getElem?_eq_none (by simpa using c)]
    rfl
theorem getItem_tuple_rev {t sl : Addr} {items : Array Value} {vs : Value} {Q : Value → Shared → Prop} (ht : IsTup s.heap t items) (hs : s.heap.IsSliceOf sl .none .none vs) (ps : IsPart vs (some (-1)))
    (h : Q (.ref s.heap.objs.size) { s with heap := s.heap.push { cls := .type "tuple", data := .seq items.toList.reverse.toArray } })
    (hsz : items.size ≤ sizeLine) : wpAny (model prog w) A (getItem (.ref t) (.ref sl)) Q E s := by
  have htake : sizeOk (.seq items.toList.reverse.toArray) := by
    show items.toList.reverse.toArray.size ≤ sizeLine
    rw [List.size_toArray, List.length_reverse, Array.length_toList]
    exact hsz
  obtain ⟨os, hos, hcs, hds⟩ := id hs
  have hTs : s.TypeIs (.ref sl) "slice" := ⟨os, hos, hcs⟩
  unfold getItem
  try with_reducible refine wpAny_holding ?_
  first | refine wpAny_bind (wpAny_pure ?_) | skip
  refine wpAny_bind (wpAny_sequenceKey ht.typeIs (by decide) ?_)
  refine wpAny_bind (wpAny_callSpecial?_slot (name := Str.ofString "__getitem__") ht.typeIs PyProof.Rows.slot_tuple_getitem
    (wpAny_call_entry PyProof.Rows.slot_tuple_getitem ht.typeIs entry_tuple_getitem ?_ (args_tuple_getitem _ _)))
  show wpAny _ _ (Builtin.Tuple.tupleItemsOf (.ref t) >>= _) _ _ s
  refine wpAny_bind (tupleItemsOf_ ht ?_)
  refine wpAny_bind (wpAny_typeOf hTs ?_)
  rw [if_pos (by decide)]
  refine wpAny_bind (sliceApplied_rev hs ps ?_)
  have hno : ¬ ((((items.size : Int) - 1) == 0 && (-1 : Int) == 1 && items.size == items.size) = true) := by
    intro q
    rw [Bool.and_eq_true, Bool.and_eq_true] at q
    exact absurd q.1.2 (by decide)
  show wpAny _ _ (if (((items.size : Int) - 1) == 0 && (-1 : Int) == 1 && items.size == items.size) = true then _ else _) _ _ s
  rw [if_neg hno, pick_rev]
  first
    | exact wpAny_bind (m := Builtin.Tuple.tupleExact _) (wpAny_newObj_type (wpAny_pure ⟨_, rfl, wpAny_pure h⟩) htake)
    | exact wpAny_bind (m := Builtin.Tuple.tupleExact _) (wpAny_newObj_type (wpAny_bind (wpAny_pure (wpAny_pure ⟨_, rfl, wpAny_pure h⟩))) htake)
/-! ### list(reversed(list)) -/
end
end HT
namespace HT
open PySem PySem.Spec PyProof.Rows L2 RT
section
variable {prog : Program} {w : World} {A : Around} {E : Value → Shared → Prop} {s : Shared}
theorem extend_rev {R : Result → Shared → Prop} {it l S : Addr} {items : Array Value} {c0 : Nat} (hh : A.handled = none) (res : Value) (hit : s.heap.IsRevIter it l ((items.size : Int) - 1)) (hl : s.heap.IsList l items) (hne : l ≠ it) (hn : items.size ≤ sizeLine) (hSi : S ≠ it) (hSl : S ≠ l)
    (hS : s.heap.get? S = some { cls := .type "list", data := .seq #[] c0 })
    (hR : ∀ (h' : Heap) (tk : Nat) (acc : Array Value) (c' : Nat), (∀ b o, b ≠ it → b ≠ S → s.heap.get? b = some o → h'.get? b = some o) → h'.get? S = some { cls := .type "list", dict := none, data := .seq acc c', slots := #[] } → ItemsOf (fun i v => items[items.size - 1 - i]? = some v) acc items.size → R (.ok (.ret res)) { s with heap := h', toks := tk }) :
    wpAny (model prog w) A.in1 (Builtin.List.listExtendWith (.ref S) (.ref it) res)
      (fun fin s' => match fin with | .done f => R (.ok f) s' | .again c' => c'.quiet = true ∧ codeAny (model prog w) A c' R s') (fun e s' => R (.error e) s') s := by
  have W := (Walks.listRev (prog := prog) (w := w) (A := A.in1) hh it l hne items).toS
  have hSf : S ∉ [it, l] := by simp only [List.mem_cons, List.not_mem_nil, or_false, not_or]; exact ⟨hSi, hSl⟩
  have hT : s.TypeIs (.ref it) "list_reverseiterator" := hit.typeIs
  have h1 : Builtin.List.listSameRef (.ref S) (.ref it) = false := by simp [Builtin.List.listSameRef, hSi]
  unfold Builtin.List.listExtendWith
  refine wpAny_bind (wpAny_typeOf hT ?_)
  rw [if_neg (by rw [h1]; decide)]
  refine wpAny_bind (wpAny_pyIter_revIter hit ?_)
  refine wpAny_bind (wpAny_holding ?_)
  unfold Builtin.List.listLengthHint
  refine wpAny_bind (wpAny_specialOf hT nolen_lri ?_)
  show wpAny _ A.in1 (specialOf (Value.ref it) (Str.ofString "__length_hint__") >>= _) _ _ _
  refine wpAny_bind (wpAny_specialOf hT hint_lri ?_)
  generalize hid : ("list_reverseiterator.__length_hint__" : String) = id0
  wp_delta
  rw [show splitId id0 = some ("list_reverseiterator", "__length_hint__") from by subst hid; decide +kernel]
  subst hid
  refine wpAny_bind (wpAny_isInstance (b := true) hT (by rw [isSubtype_type]; kernel_rfl) ?_)
  refine wpAny_pure ?_
  rw [if_neg (by decide)]
  have e0 : ((items.size : Nat) : Int) - 1 - ((0 : Nat) : Int) = (items.size : Int) - 1 := by omega
  refine wpAny_pure ⟨plainId_quiet F.plain_extend_loop _, codeAny_extend_loopS W hn _ hSf res items.size 0 _ _ _ rfl (Nat.zero_le _) ⟨Nat.zero_le _, by rw [e0]; exact hit, hl⟩ hS (ItemsOf.nil _) fun s' acc' c' hm hS' hacc => ?_⟩
  rw [Moved.eq_with hm]
  refine hR s'.heap s'.toks acc' c' (fun b o hb hb2 e => hm.heap b o (fun hmem => ?_) e) hS' hacc
  rcases List.mem_cons.mp hmem with e' | hmem
  · exact hb2 e'
  · exact hb (List.mem_singleton.mp hmem)
theorem list_init_rev {R : Result → Shared → Prop} {it l S : Addr} {items : Array Value} (hh : A.handled = none) (hit : s.heap.IsRevIter it l ((items.size : Int) - 1)) (hl : s.heap.IsList l items) (hne : l ≠ it) (hn : items.size ≤ sizeLine) (hSi : S ≠ it) (hSl : S ≠ l)
    (hS : s.heap.get? S = some { cls := .type "list", data := .seq #[] })
    (hR : ∀ (h' : Heap) (tk : Nat) (acc : Array Value) (c' : Nat), (∀ b o, b ≠ it → b ≠ S → s.heap.get? b = some o → h'.get? b = some o) → h'.get? S = some { cls := .type "list", dict := none, data := .seq acc c', slots := #[] } → ItemsOf (fun i v => items[items.size - 1 - i]? = some v) acc items.size → R (.ok (.ret .none)) { s with heap := h', toks := tk }) :
    wpAny (model prog w) A.in1 (Builtin.«list.__init__» ⟨[.ref S, .ref it], []⟩)
      (fun fin s' => match fin with | .done f => R (.ok f) s' | .again c' => c'.quiet = true ∧ codeAny (model prog w) A c' R s') (fun e s' => R (.error e) s') s := by
  show wpAny _ A.in1 (do let old ← Builtin.List.listItems (.ref S); Builtin.List.listUpdate (.ref S) (fun _ => #[]); letGo old.toList.reverse; Builtin.List.listExtendWith (.ref S) (.ref it) .none) _ _ s
  refine wpAny_bind ?_
  unfold Builtin.List.listItems
  refine wpAny_bind (wpAny_seqItems hS rfl (wpAny_pure ?_))
  show wpAny _ A.in1 (updateSeq S (fun _ => #[]) >>= fun _ => letGo (#[] : Array Value).toList.reverse >>= fun _ => Builtin.List.listExtendWith (.ref S) (.ref it) .none) _ _ s
  refine wpAny_bind (wpAny_updateSeq hS rfl ?_)
  have hS2 := Heap.get?_update_self (Obj.mapSeq (fun _ => (#[] : Array Value))) hS rfl
  have oth : ∀ b o, b ≠ S → s.heap.get? b = some o → (s.heap.update S (Obj.mapSeq (fun _ => (#[] : Array Value)))).get? b = some o :=
    fun b o hb e => (Heap.get?_update_other _ _ (Ne.symm hb)).trans e
  refine wpAny_bind (wpAny_letGo ?_)
  have hl2 : (s.heap.update S (Obj.mapSeq (fun _ => (#[] : Array Value)))).IsList l items := by
    obtain ⟨o, e, r⟩ := hl
    exact ⟨o, oth _ _ (Ne.symm hSl) e, r⟩
  refine extend_rev hh .none (hit.at fun o e => oth _ _ (Ne.symm hSi) e) hl2 hne hn hSi hSl hS2 fun h' tk acc' c' hk hS' hacc => ?_
  exact hR h' tk acc' c' (fun b o hb hb2 e => hk b o hb hb2 (oth b o hb2 e)) hS' hacc
theorem call_list_rev {it l : Addr} {items : Array Value} {Q : Value → Shared → Prop} (hh : A.handled = none) (hit : s.heap.IsRevIter it l ((items.size : Int) - 1)) (hl : s.heap.IsList l items) (hne : l ≠ it) (hn : items.size ≤ sizeLine)
    (hQ : ∀ (h' : Heap) (tk : Nat) (acc : Array Value) (c' : Nat), (∀ b o, b ≠ it → s.heap.get? b = some o → h'.get? b = some o) → h'.get? s.heap.objs.size = some { cls := .type "list", dict := none, data := .seq acc c', slots := #[] } → ItemsOf (fun i v => items[items.size - 1 - i]? = some v) acc items.size →
      Q (.ref s.heap.objs.size) { s with heap := h', toks := tk }) :
    wpAny (model prog w) A (call (.type "list") [.ref it]) Q E s := by
  obtain ⟨oi, hoi, _⟩ := id hit
  obtain ⟨ol, hol, _⟩ := id hl
  have hSi : s.heap.objs.size ≠ it := Nat.ne_of_gt (Heap.lt_size hoi)
  have hSl : s.heap.objs.size ≠ l := Nat.ne_of_gt (Heap.lt_size hol)
  refine callType_codes (Q₁ := fun obj s₁ => obj = .ref s.heap.objs.size ∧ s₁ = { s with heap := s.heap.push { cls := .type "list", data := .seq #[] } }) F.called_list (F.typeCall_list_1 _) F.entry_list_init
    (code_list_new _ ⟨rfl, rfl⟩) fun obj s₁ h₁ => ?_
  obtain ⟨rfl, rfl⟩ := h₁
  have hS : (s.heap.push { cls := .type "list", data := .seq #[] }).get? s.heap.objs.size = some { cls := .type "list", data := .seq #[] } := Heap.get?_push_size _ rfl
  refine ⟨⟨_, hS, rfl⟩, F.args_list_init_2 _ _, list_init_rev (A := A.in1) hh (hit.at fun o e => Heap.get?_push_of_some _ e) (hl.push _) hne hn hSi hSl hS fun h' tk acc' c' hk hS' hacc => ?_⟩
  exact ⟨rfl, hQ h' tk acc' c' (fun b o hb e => hk b o hb (Nat.ne_of_lt (Heap.lt_size e)) (Heap.get?_push_of_some _ e)) hS' hacc⟩
end
end HT
namespace Cm
open PySem PySem.Spec PyProof.Rows L2 RT
section
variable {X : Cx}
def rRevT (K : PySem.W.Frag) (x : V) (H : Hp) (Q : VK) : Prop := ∃ a xs, x = .ref a ∧ SqT K H a xs ∧ ∀ p, H p = none → Q (.ref p) (upd H p (.tup xs.reverse))
def tRevT (K : PySem.W.Frag) (te : TE) : TE := fun σ H Q => te σ H fun x H1 => rRevT K x H1 Q
theorem pe_revT {e : Expr} {te : TE} {k : Nat} {p1 p2 p3 pos : Pos} (he : PE X e te) : PE X (.Subscript e (.Slice none none (some (.UnaryOp .USub (.Constant (.int 1) k p1) p2)) p3) pos) (tRevT X.K te) := by
  refine ⟨fun pins s σ H Q I h => ?_⟩
  refine Subscript_ (thn (he.run pins s σ H _ I h) fun v s1 ⟨x, H1, I1, r1, q1⟩ => ?_)
  obtain ⟨a, xs, ex, hx, q⟩ := q1
  subst ex
  cases r1
  have hst : PO X (some (.UnaryOp .USub (.Constant (.int 1) k p1) p2)) (tPart (tUn (rU fun i => .int (-i)) (tC (.int 1)))) := po_some (pe_un un_neg pe_int)
  refine wpAny_Slice (thn (po_none.run pins s1 σ H1 (fun o H2 => o = none ∧ H2 = H1) I1 ⟨rfl, rfl⟩) fun vl s2 ⟨l, H2, I2, pl, el, e2⟩ => ?_)
  subst el e2
  refine thn (po_none.run pins s2 σ H2 (fun o H3 => o = none ∧ H3 = H2) I2 ⟨rfl, rfl⟩) fun vu s3 ⟨u, H3, I3, pu, eu, e3⟩ => ?_
  subst eu e3
  refine thn (hst.run pins s3 σ H3 (fun o H4 => o = some (-1) ∧ H4 = H3) I3 ⟨1, rfl, -1, rfl, rfl, rfl⟩) fun vs s4 ⟨o, H4, I4, ps, eo, e4⟩ => ?_
  subst eo e4
  have I5 : Inv X pins σ H4 { s4 with heap := s4.heap.push { cls := .type "slice", data := .fields #[vl, vu, vs] } } := I4.kept (t' := s4.toks) fun b ob q => Heap.get?_push_of_some _ q
  obtain ⟨its, r, ht, hz⟩ := I5.tuple hx
  have hlen := r.length
  cases pl
  cases pu
  show wpAny (model X.prog X.w) X.A (subscriptTail e (.Slice none none (some (.UnaryOp .USub (.Constant (.int 1) k p1) p2)) p3) (.ref a) (.ref s4.heap.objs.size)) (EP X pins σ Q) X.xe { s4 with heap := s4.heap.push { cls := .type "slice", data := .fields #[.none, .none, vs] } }
  refine tail_any (ops := [.ref a, .ref s4.heap.objs.size]) ht.typeIs (PyProof.Rows.slot_tuple_getitem.lookup) ?_ (by with_unfolding_all rfl)
  refine HT.getItem_tuple_rev ht (Heap.IsSliceOf.new _ .none .none vs) ps ?_ (by rw [List.size_toArray]; omega)
  refine ⟨.ref _, _, I5.laid (t' := s4.toks) (o := .tup xs.reverse) (fun b ob q => Heap.get?_push_of_some _ q) (Nat.le_refl _) ?_, rfl, q _ (I5.hok.fresh (Nat.le_refl _))⟩
  exact ⟨by rw [List.length_reverse]; exact hz, _, r.reverse, IsTup.new _ _⟩
end
instance {K : PySem.W.Frag} {σ : L2.St} {H : Hp} {Q : VK} {te : TE} : Stp (tRevT K te σ H Q) (te σ H fun x H1 => rRevT K x H1 Q) := ⟨id⟩
theorem k_revT {K : PySem.W.Frag} {H : Hp} {Q : VK} {a : Addr} {xs : List V} (hs : SqT K H a xs) (h : ∀ p H', H p = none → Same H H' → H' p = some (.tup xs.reverse) → Q (.ref p) H') : rRevT K (.ref a) H Q := ⟨a, xs, rfl, hs, fun p np => h p _ np (same_new np) upd_same⟩
/-! ### is, is not of truths -/
def xIsB : R2 := rIsB
def xNotB : R2 := rNotB
instance {a b : Bool} {H : Hp} {Q : VK} : Stp (xIsB (.bl a) (.bl b) H Q) (Q (.bl (decide (a = b))) H) := ⟨fun h => ⟨a, b, rfl, rfl, h⟩⟩
instance {a b : Bool} {H : Hp} {Q : VK} : Stp (xNotB (.bl a) (.bl b) H Q) (Q (.bl (!decide (a = b))) H) := ⟨fun h => ⟨a, b, rfl, rfl, h⟩⟩
/-! ### tuple(xs) of a list -/
def rTupOf (K : PySem.W.Frag) : List V → Hp → VK → Prop := fun xs H Q => ∃ p ys, xs = [.ref p] ∧ ((SqL K H p ys ∧ ∀ l, H l = none → Q (.ref l) (upd H l (.tup ys))) ∨ (SqT K H p ys ∧ Q (.ref p) H))
theorem q_tupOf {X : Cx} : CallR X (.type "tuple") (rTupOf X.K) := call_tuple_of
theorem k_tupOf {K : PySem.W.Frag} {H : Hp} {Q : VK} {p : Addr} {ys : List V} (hs : SqL K H p ys) (h : ∀ l H', H l = none → Same H H' → H' l = some (.tup ys) → Q (.ref l) H') : rTupOf K [.ref p] H Q := ⟨p, ys, rfl, .inl ⟨hs, fun l nl => h l _ nl (same_new nl) upd_same⟩⟩
/-! ### [d[k] for k in d] -/
theorem lc_vals {σ : L2.St} {H : Hp} {Q : VK} {p : Addr} {kvs : List (Key × V)} {i l : Nat} (hd : H p = some (.dK kvs)) (hv0 : (wipe σ [l])[i]? = some (some (.ref p)) ∧ σ[i]? = some (some (.ref p))) (hv : ∀ x : V, ((wipe σ [l]).set l (some x))[i]? = some (some (.ref p))) (hl : ∀ x : V, ((wipe σ [l]).set l (some x))[l]? = some (some x)) (hwp : ∀ x : V, wipe ((wipe σ [l]).set l (some x)) [l] = wipe σ [l])
    (hn : kvs.length ≤ 50000) (nd : ∀ kv ∈ kvs, valV kvs kv.1 = some kv.2) (h : ∀ D H', H D = none → Same H H' → H' D = some (.lst (kvs.map (·.2))) → Q (.ref D) H') :
    tLockE (tLc (iKeys (tVar i)) (gName l) tYes (tDGet (tVar i) (tVar l)) [l]) σ H Q := by
  refine ⟨p, .dK kvs, hd, trivial, fun od => ?_⟩
  refine ⟨_, hv0.2, p, od, rfl, .inl ⟨kvs, upd_same, fun D nD => ?_⟩⟩
  have Dp : D ≠ p := fun z => by rw [z, upd_same] at nD; cases nD
  have nD' : H D = none := by rw [upd_ne Dp] at nD; exact nD
  refine lc_it walk_keys (fun j H' => H' = upd (upd H p (.frz od (.dK kvs))) D (.lst ((kvs.take j).map (·.2)))) (by simp) (fun j H' _ e => by rw [e, upd_ne (fun z => Dp z.symm), upd_same]) ?_ ?_
  · rintro j x H1 H2 hj rfl ⟨rfl, k, v, hk, rfl⟩
    refine ⟨hwp _, ?_⟩
    refine k_yes (iteT ?_)
    refine ⟨_, hv _, _, hl _, p, v, rfl, .inl ⟨kvs, k, .inr ⟨od, by rw [upd_ne (fun z => Dp z.symm), upd_same]⟩, rfl, (nd _ (List.mem_of_getElem? hk)).symm⟩, _, upd_same, szl (by rw [List.length_map, List.length_take]; omega), ?_⟩
    rw [upd_upd, List.take_add_one, hk, List.map_append]
    rfl
  · rintro H1 rfl
    refine ⟨by rw [upd_ne (fun z => Dp z.symm), upd_same], ?_⟩
    refine h D _ nD' (fun b o hb => ?_) ?_
    · by_cases c : b = p
      · rw [c, upd_same, ← hd, ← c, hb]
      · have bD : b ≠ D := fun z => by rw [z, nD'] at hb; cases hb
        rw [upd_ne c, upd_ne bD, upd_ne c]; exact hb
    · rw [upd_ne Dp, upd_same, List.take_length]
/-! ### d.get(k) -/
def gD1N (a : Addr) (y : V) (H : Hp) (Q : VK) : Prop := ∃ o, DGet H a y o ∧ Q (o.getD .non) H
instance {σ : L2.St} {H : Hp} {Q : VK} {td ty : TE} : Stp (tDGet1 td ty σ H Q) (td σ H fun x H1 => aD x H1 fun a => ty σ H1 fun y H2 => gD1N a y H2 Q) := ⟨id⟩
theorem k_gD1N {H : Hp} {Q : VK} {p : Addr} {kvs : List (Key × V)} {t : Int} (e : H p = some (.dK kvs)) (h : Q ((valV kvs (.inl t)).getD .non) H) : gD1N p (.int t) H Q := ⟨_, DGet.k (k := .inl t) e, h⟩
/-! ### list(reversed(xs)) of a list -/
section
variable {X : Cx}
def rLRv (K : PySem.W.Frag) (x : V) (H : Hp) (Q : VK) : Prop := ∃ a xs, x = .ref a ∧ SqL K H a xs ∧ ∀ p, H p = none → Q (.ref p) (upd H p (.lst xs.reverse))
def tLRv (K : PySem.W.Frag) (te : TE) : TE := fun σ H Q => te σ H fun x H1 => rLRv K x H1 Q
theorem pe_lRv {e : Expr} {te : TE} {p p2 pos pos2 : Pos} (hc : X.calm = true) (hg : Gl X "list") (hm : X.mg "list" = none) (hg2 : Gl X "reversed") (hm2 : X.mg "reversed" = none) (he : PE X e te)
    (hs : starEach [e] X.env = (false, eval e X.env) :: starEach [] X.env := by rfl)
    (hs2 : starEach [.Call (.Name "reversed" p2) [e] [] pos2] X.env = (false, eval (.Call (.Name "reversed" p2) [e] [] pos2) X.env) :: starEach [] X.env := by rfl) :
    PE X (.Call (.Name "list" p) [.Call (.Name "reversed" p2) [e] [] pos2] [] pos) (tLRv X.K te) := by
  refine ⟨fun pins s σ H Q I h => ?_⟩
  refine Call_ (ld_blt I hg hm boot_list (PyProof.Rows.callWith_type1 (args_cons (Call_ (ld_blt I hg2 hm2 PyProof.Rows.boot_reversed (PyProof.Rows.callWith_type1 (args_cons (thn (he.run pins s σ H _ I h) fun u s1 ⟨v, H1, I1, r1, q1⟩ => args_nil ?_) hs) hs rfl))) hs2) hs2 rfl))
  obtain ⟨a, xs, ev, hq, q⟩ := q1
  subst ev
  obtain rfl : u = Value.ref a := r1
  obtain ⟨its, rv, p', hz⟩ := I1.list hq
  refine call_reversed_list p'.isList (args_nil ?_)
  have k0 : ∀ b o, s1.heap.get? b = some o → (s1.heap.push (revObj a ((its.toArray.size : Int) - 1))).get? b = some o := fun b o e => Heap.get?_push_of_some _ e
  have I2 : Inv X pins σ H1 { s1 with heap := s1.heap.push (revObj a ((its.toArray.size : Int) - 1)) } := I1.kept (t' := s1.toks) k0
  obtain ⟨f0, f1, f2, f3, f4, f5⟩ := I1.fpOk (H' := H1) (b := s1.heap.objs.size) (Nat.le_refl _) (I1.hok.fresh (Nat.le_refl _))
  have hl := p'.isList
  obtain ⟨ol, hol, _⟩ := id hl
  have hne : a ≠ s1.heap.objs.size := Nat.ne_of_lt (Heap.lt_size hol)
  have hn : its.toArray.size ≤ sizeLine := by rw [List.size_toArray, ← rv.length]; exact hz
  refine HT.call_list_rev (s := { s1 with heap := s1.heap.push (revObj a ((its.toArray.size : Int) - 1)) }) (I1.ok.hd hc) ⟨_, Heap.get?_push_size _ rfl, rfl, rfl⟩ (hl.push _) hne hn fun h' tk acc c' hk hS' hi => ?_
  refine ⟨.ref _, upd H1 _ (.lst xs.reverse), I2.turnedNew (t' := tk) (ch := [s1.heap.objs.size]) (fun b o hb e => hk b o (fun z => hb (by rw [z]; exact List.mem_singleton.mpr rfl)) e) (fun b hb => by rw [List.mem_singleton.mp hb]; exact ⟨f0, f1, f2, f3, f4, f5⟩) (Nat.le_refl _) (show ObjOk X.prog X.w _ _ _ (.lst xs.reverse) from ⟨by rw [List.length_reverse]; exact hz, acc.toList, c', vals_rev rv hi, by rw [Array.toArray_toList]; exact hS'⟩), rfl, q _ (I2.hok.fresh (Nat.le_refl _))⟩
instance {K : PySem.W.Frag} {σ : L2.St} {H : Hp} {Q : VK} {te : TE} : Stp (tLRv K te σ H Q) (te σ H fun x H1 => rLRv K x H1 Q) := ⟨id⟩
theorem k_lRv {K : PySem.W.Frag} {H : Hp} {Q : VK} {a : Addr} {xs : List V} (hs : SqL K H a xs) (h : ∀ p H', H p = none → Same H H' → H' p = some (.lst xs.reverse) → Q (.ref p) H') : rLRv K (.ref a) H Q := ⟨a, xs, rfl, hs, fun p np => h p _ np (same_new np) upd_same⟩
end
/-! ### xs + ys of any two lists -/
section
variable {X : Cx}
def rCatS (K : PySem.W.Frag) : R2 := fun x y H Q => ∃ l b xs zs, x = .ref l ∧ y = .ref b ∧ SqL K H l xs ∧ SqL K H b zs ∧ xs.length + zs.length ≤ sizeLine ∧ ∀ p, H p = none → Q (.ref p) (upd H p (.lst (xs ++ zs)))
theorem op_catS : OpR X (binaryOp .Add) (rCatS X.K) := by
  intro pins s σ H x y v u Q I rx ry h
  obtain ⟨l, b, xs, zs, rfl, rfl, hH, hB, hz, q⟩ := h
  cases rx
  cases ry
  obtain ⟨its, r, p1, _⟩ := I.list hH
  obtain ⟨its2, r2, p2, _⟩ := I.list hB
  have l1 := r.length
  have l2 := r2.length
  obtain ⟨⟨cls, dd, data, sl⟩, ho, hc, n, hd⟩ := p1.isList
  obtain ⟨⟨cls2, dd2, data2, sl2⟩, ho2, hc2, n2, hd2⟩ := p2.isList
  simp only at hc hd hc2 hd2
  subst hc hd hc2 hd2
  have e : its.toArray ++ its2.toArray = (its ++ its2).toArray := by simp
  refine concat_meets ⟨_, ho, rfl⟩ ⟨_, ho2, rfl⟩ noFill_list_add seq_list_add PySem.F.slot_list_add PySem.F.entry_list_add (PySem.F.args_list_add_2 _ _) (list_addW l b its.toArray its2.toArray n n2 dd dd2 sl sl2 (by simp only [List.size_toArray]; omega)) ⟨ho, ho2, ?_⟩
  rw [e]
  exact ⟨.ref _, _, I.lnew (t' := s.toks) (r.append r2) (by rw [List.length_append]; exact hz), rfl, q _ I.fresh⟩
theorem k_catS {K : PySem.W.Frag} {H : Hp} {Q : VK} {l b : Addr} {xs zs : List V} (hl : SqL K H l xs) (hb : SqL K H b zs) (hz : xs.length + zs.length ≤ 100000) (h : ∀ p H', H p = none → Same H H' → H' p = some (.lst (xs ++ zs)) → Q (.ref p) H') : rCatS K (.ref l) (.ref b) H Q := ⟨l, b, xs, zs, rfl, rfl, hl, hb, sz hz, fun p np => h p _ np (same_new np) upd_same⟩
end
/-! ### xs.count(k) of a list of tuples and whole numbers -/
def isK (k : Int) : V → Bool
  | .int i => decide (i = k)
  | _ => false
def isKU (k : Int) : Value → Bool
  | .int i _ => decide (i = k)
  | _ => false
theorem isK_rel {k : Int} {v : V} {u : Value} (r : RelV v u) (h : (∃ p, v = .ref p) ∨ ∃ i, v = .int i) : isKU k u = isK k v := by
  rcases h with ⟨p, rfl⟩ | ⟨i, rfl⟩
  · cases r; rfl
  · obtain ⟨t, rfl⟩ := r; rfl
theorem isK_cnt {k : Int} : ∀ {vs : List V} {us : List Value}, Vals vs us → (∀ v ∈ vs, (∃ p, v = .ref p) ∨ ∃ i, v = .int i) → us.countP (isKU k) = vs.countP (isK k)
  | _, _, .nil, _ => rfl
  | v :: vs, u :: us, .cons r rs, h => by
    rw [List.countP_cons, List.countP_cons, isK_rel r (h v List.mem_cons_self), isK_cnt rs fun x hx => h x (List.mem_cons_of_mem _ hx)]
def rCntD (K : PySem.W.Frag) : V → List V → Hp → VK → Prop := fun x xs H Q => ∃ (a : Addr) (ys : List V) (ds : List PyData) (k : Int), x = V.ref a ∧ xs = [.int k] ∧ SqL K H a ys ∧ DpAll K H ys ds ∧ PyData.canLayAll0 ds = true ∧ (∀ d ∈ ds, (∃ es, d = .tuple es) ∨ ∃ i, d = .int i) ∧ Q (.int (ys.countP (isK k) : Nat)) H
theorem lay_mem : ∀ {ds : List PyData}, PyData.canLayAll0 ds = true → ∀ d ∈ ds, d.canLay0 = true
  | [], _, d, h => by cases h
  | a :: r, h, d, hd => by
    have h' : (a.canLay0 && PyData.canLayAll0 r) = true := h
    rw [Bool.and_eq_true] at h'
    rcases List.mem_cons.mp hd with rfl | hd
    · exact h'.1
    · exact lay_mem h'.2 d hd
theorem vals_data {K : PySem.W.Frag} {H : Hp} : ∀ {vs : List V} {us : List Value} {ds : List PyData}, Vals vs us → DpAll K H vs ds → ∀ u ∈ us, ∃ v d, RelV v u ∧ Dp K H v d ∧ d ∈ ds
  | _, _, _, .nil, _, u, hu => by cases hu
  | _, _, _, .cons r rs, .cons h hs, u, hu => by
    rcases List.mem_cons.mp hu with rfl | hu
    · exact ⟨_, _, r, h, List.mem_cons_self⟩
    · obtain ⟨v, d, h1, h2, h3⟩ := vals_data rs hs u hu
      exact ⟨v, d, h1, h2, List.mem_cons_of_mem _ h3⟩
theorem data_kind {K : PySem.W.Frag} {H : Hp} {v : V} {d : PyData} (h : Dp K H v d) (k : (∃ es, d = .tuple es) ∨ ∃ i, d = .int i) : (∃ p, v = .ref p) ∨ ∃ i, v = .int i := by
  rcases k with ⟨es, rfl⟩ | ⟨i, rfl⟩
  · obtain ⟨a, _, e, _⟩ := dp_tup h; exact .inl ⟨a, e⟩
  · exact .inr ⟨i, dp_int h⟩
theorem mt_lcountD {X : Cx} (hu : X.A.units + 64 < cLine) : MtR X "list.count" (rCntD X.K) := by
  intro pins s σ H x xs v us Q I rx rxs h
  obtain ⟨a, ys, ds, k, rfl, rfl, hs, dys, lay, kd, q⟩ := h
  cases rx
  cases rxs with
  | cons ry rt =>
    rename_i uy ut
    cases rt
    obtain ⟨t, rfl⟩ := ry
    obtain ⟨its, rv, ⟨⟨cls, dd, data, sl⟩, n, ho, hc, hdn, hd⟩, hlen⟩ := I.list hs
    simp only at hc hd
    subst hc hd
    refine call_meets PySem.F.slot_list_count ⟨_, ho, rfl⟩ PySem.F.entry_list_count (PySem.F.args_list_count_2 _ _)
      (SeqAt.list_countAt a its.toArray n dd sl (.int k t) (isKU k)) ⟨ho, fun u' hu' => ?_, ?_⟩
    · obtain ⟨w, d, r1, r2, r3⟩ := vals_data rv dys u' (by simpa using hu')
      obtain ⟨as, rd⟩ := Dp.reads I d w u' r2 r1
      have eq := SeqAt.eqAt_reads d (.int k) X.A.in1 s u' (.int k t) as _ rd (Reads.int k t) (lay_mem lay d r3) rfl (by
        have : min d.depth (PyData.int k).depth ≤ 0 := Nat.min_le_right _ _
        have e : X.A.in1.units = X.A.units + 1 := rfl
        rw [e]; omega)
      have e : PyData.eqv d (.int k) = isKU k u' := by
        rw [isK_rel r1 (data_kind r2 (kd d r3))]
        rcases kd d r3 with ⟨es, rfl⟩ | ⟨i, rfl⟩
        · obtain ⟨p, _, rfl, _⟩ := dp_tup r2; rfl
        · cases dp_int r2
          show (i == k) = decide (i = k)
          by_cases c : i = k
          · rw [c, decide_eq_true rfl]; simp
          · rw [decide_eq_false c]; simpa using c
      rw [e] at eq
      exact eq
    · have ec : its.toArray.toList.countP (isKU k) = ys.countP (isK k) := isK_cnt rv fun v hv => by
        obtain ⟨i, hi, e⟩ := List.mem_iff_getElem.mp hv
        obtain ⟨d, hd, dd⟩ := dpa_get dys (show ys[i]? = some v by rw [List.getElem?_eq_getElem hi, e])
        exact data_kind dd (kd d (List.mem_of_getElem? hd))
      refine ⟨.int (ys.countP (isK k) : Nat), H, I.tok _, ⟨s.toks, ?_⟩, q⟩
      show Value.int ((its.toArray.toList.countP (isKU k) : Nat) : Int) s.toks = Value.int ((ys.countP (isK k) : Nat) : Int) s.toks
      rw [ec]
end Cm
namespace HT
open PySem PySem.Spec PyProof.Rows L2
/-! ### a set of whole numbers made of a list, its table in order -/
/-- the set at S holds just the first i numbers -/
def Grown (w : World) (val : Nat → Int) (S : Addr) (i : Nat) (h : Heap) : Prop := SetR w h S (fun k => (firstMet val i).any (· == k)) (firstMet val i).length
section
variable {prog : Program} {w : World} {A : Around} {E : Value → Shared → Prop} {s : Shared}
theorem Grown.next {val : Nat → Int} {S : Addr} {i : Nat} {tk : Tok} {Q : Bool → Shared → Prop} (g : Grown w val S i s.heap) (room : i + 1 < scanBound) (h : ∀ b h', Heap.SameBut S s.heap h' → Grown w val S (i + 1) h' → Q b { s with heap := h' }) :
    wpAny (model prog w) A (setAddHashed S (.int (val i) tk) ((intKind prog w).hash (val i))) Q E s :=
  setR_add_hashed g (Nat.lt_of_le_of_lt (Nat.add_le_add_right (firstMet_length_le val i) 1) room) fun h' sb r => h _ h' sb (by
    unfold Grown
    rw [firstMet_succ, step_length]
    exact r.congr fun k => step_any _ _ k)
theorem grow_all {I : Addr} {fp wr : List Addr} {G : Array GenState → Array GenState → Prop} {n : Nat} {P : Nat → Value → Prop} {St : Nat → Shared → Prop} {R : Result → Shared → Prop} {S : Addr} {val : Nat → Int} {s0 : Shared}
    (W : WalksS prog w A.in1 I fp wr G n P St) (out : S ∉ fp) (hin : ∀ i v, P i v → ∃ t, v = .int (val i) t) (room : n + 1 < scanBound)
    (fin : ∀ z, Moved (S :: wr) G s0 z → Grown w val S n z.heap → R (.ok (.ret .none)) z) :
    ∀ (left i : Nat) (z : Shared), i + left = n → St i z → Moved (S :: wr) G s0 z → Grown w val S i z.heap → codeAny (model prog w) A (.builtin "set.update.loop" ⟨[.ref S, .ref I], []⟩) R z := by
  have away : S ∉ wr := fun y => out (W.sub _ y)
  have wider : ∀ b ∈ wr, b ∈ S :: wr := fun _ y => List.mem_cons_of_mem _ y
  intro left
  induction left with
  | zero =>
    rintro i z e st mv g
    obtain rfl : i = n := e
    refine codeAny_builtin F.entry_set_update_loop ?_
    rw [Around.under_plainId F.plain_set_update_loop _]
    exact wpAny_bind (W.done z _ _ st fun z' m => wpAny_pure (fin z' (Moved.trans W.gtrans mv (m.mono wider)) (g.at fun o y => m.heap S _ away y)))
  | succ left ih =>
    rintro i z e st mv g
    refine codeAny_builtin F.entry_set_update_loop ?_
    rw [Around.under_plainId F.plain_set_update_loop _]
    refine wpAny_bind (W.item i z _ _ (by omega) st fun v z' pv st' m => ?_)
    obtain ⟨t, rfl⟩ := hin i v pv
    have g' : Grown w val S i z'.heap := g.at fun o y => m.heap S _ away y
    refine wpAny_bind (wpAny_holding (m := setAdd S (.int (val i) t)) ?_)
    unfold setAdd
    refine wpAny_holding (wpAny_bind ((intKind prog w).pyHash (k := val i) (intKind_is _ _ _ _) ?_))
    refine Grown.next (s := { z' with toks := z'.toks + 1 }) g' (by omega) fun _ h' sb g2 => ?_
    have keep : ∀ b o, b ≠ S → z'.heap.get? b = some o → h'.get? b = some o := fun b o hb y => by rw [sb.2 b hb]; exact y
    refine wpAny_pure ⟨plainId_quiet F.plain_set_update_loop _, ih (i + 1) _ (by omega) (W.frame _ z' _ _ st' (Nat.le_succ _) fun b hb o y => keep b o (fun c => out (c ▸ hb)) y) ?_ g2⟩
    exact Moved.trans W.gtrans mv ((m.mono wider).then_heap (Nat.le_succ _) fun b o hb y => keep b o (fun c => hb (c ▸ List.mem_cons_self)) y)
/-- the new set, before anything is in it -/
def bareSet (w : World) : Obj := { cls := .type "set", dict := none, data := .set #[] 0 (.fresh 0 0 (!w.params.followText "set-order")) }
theorem new_bare (x : Value) {Q : Value → Shared → Prop} (h : Q (.ref s.heap.objs.size) { s with heap := s.heap.push (bareSet w) }) :
    codeAny (model prog w) A (.call (.builtin "set.__new__") ⟨[.type "set", x], []⟩) (wants Q E) s := by
  refine codeAny_of_tree ?_
  show wpAny _ A.in1 (checkBuiltinCall "set.__new__" ⟨[.type "set", x], []⟩ >>= fun _ => again (.builtin "set.__new__" ⟨[.type "set", x], []⟩)) _ _ s
  refine wpAny_bind (wpAny_of_eq (F.newCall_set_1 x) (wpAny_pure ⟨plainId_quiet F.plain_set_new _, codeAny_builtin F.entry_set_new ?_⟩))
  rw [Around.under_plainId F.plain_set_new _]
  have sub := sub_set_self
  unfold Builtin.«set.__new__» Builtin.Frozenset.newClass
  obtain ⟨hp, g, d, tk, os⟩ := s
  dsimp only
  wp_walk
  exact wpAny_askSetting (wpAny_pure (by dsimp only; simp only [newObj]; exact wpAny_bind (wpAny_alloc (wpAny_pure (wpAny_pure h)))))
/-- set.__init__ of a bare set and a list of whole numbers -/
theorem init_bare {l : Addr} {items : Array Value} {ns : List Int} {R : Result → Shared → Prop} {S : Addr} (hh : A.handled = none) (hS : s.heap.get? S = some (bareSet w)) (hl : s.heap.IsList l items) (hi : IntsAre items.toList ns) (room : items.size + 1 < scanBound)
    (fin : ∀ (h' : Heap) (tk : Nat), Grown w (fun i => ns.getD i 0) S items.size h' → (∀ b o, b ≠ S → s.heap.get? b = some o → h'.get? b = some o) → R (.ok (.ret .none)) { s with heap := h', toks := tk }) :
    wpAny (model prog w) A.in1 (Builtin.«set.__init__» ⟨[.ref S, .ref l], []⟩)
      (fun f s' => match f with | .done f => R (.ok f) s' | .again c => c.quiet = true ∧ codeAny (model prog w) A c R s') (fun e s' => R (.error e) s') s := by
  obtain ⟨⟨cl, dc, dt, so⟩, hol, hcl, nl, hdl⟩ := id hl
  simp only at hcl hdl
  subst hcl hdl
  have noSet := F.sub_list_set
  have noFrozen := F.sub_list_frozenset
  have noDict : (Value.type "list" == Value.type "dict") = false := by decide
  unfold bareSet at hS
  unfold Builtin.«set.__init__» noKeywords Builtin.Frozenset.updateFrom
  generalize eI : pyIter = walkIt
  wp_walk
  subst eI
  refine wpAny_pyIter_list hl ?_
  refine wpAny_bind (wpAny_runValue ?_)
  have lt1 : l < s.heap.objs.size := Heap.lt_size hol
  have ltS : S < s.heap.objs.size := Heap.lt_size hS
  have neS : l ≠ S := fun z => by
    rw [z, hS] at hol
    simp at hol
  have old : ∀ b o, s.heap.get? b = some o → (s.heap.push { cls := .type "list_iterator", data := .fields #[.ref l, .int 0 0] }).get? b = some o := fun b o y => Heap.get?_push_of_some _ y
  refine grow_all (s0 := { s with heap := s.heap.push { cls := .type "list_iterator", data := .fields #[.ref l, .int 0 0] } }) (val := fun i => ns.getD i 0) ((Walks.list (prog := prog) (w := w) (A := A.in1.in1) hh s.heap.objs.size l (Nat.ne_of_lt lt1) items).toS) ?_ (fun i v y => IntsAre.int_at hi i v (by rw [Array.getElem?_toList]; exact y)) room (fun z m g => ?_) items.size 0 _ (by omega) ⟨⟨_, Heap.get?_push_size _ rfl, rfl, rfl⟩, hl.push _⟩ (Moved.refl fun _ => rfl) ?_
  · simp only [List.mem_cons, List.not_mem_nil, or_false, not_or]
    exact ⟨Nat.ne_of_lt ltS, fun z => neS z.symm⟩
  · have ez := Moved.eq_with m
    rw [ez]
    refine wpAny_pure ?_
    show wpAny _ _ (ret Value.none) _ _ _
    refine wpAny_pure (fin z.heap z.toks g fun b o hb y => m.heap b o (fun hm => ?_) (old b o y))
    rcases List.mem_cons.mp hm with hm | hm
    · exact hb hm
    · have e : b = s.heap.objs.size := by simpa using hm
      exact Nat.lt_irrefl _ (e ▸ Heap.lt_size y)
  · have g0 : SetR w (s.heap.push { cls := .type "list_iterator", data := .fields #[.ref l, .int 0 0] }) S (fun _ => false) 0 :=
      ⟨_, #[], 0, _, old _ _ hS, ⟨rfl, rfl, rfl⟩, rfl, (fun e he => by simp at he), (by simp), (fun k => by simp), (by decide), (by rfl), rfl, List.Pairwise.nil, by
        show _ ∨ (!w.params.followText "set-order") = true
        cases w.params.followText "set-order"
        · exact .inr rfl
        · exact .inl rfl⟩
    exact g0
/-- set(xs) of whole numbers, with what sorted needs -/
theorem set_of_ints {l : Addr} {items : Array Value} {ns : List Int} {Q : Value → Shared → Prop} (hh : A.handled = none) (hl : s.heap.IsList l items) (hi : IntsAre items.toList ns) (room : items.size + 1 < scanBound)
    (fin : ∀ (h' : Heap) (tk : Nat), Grown w (fun i => ns.getD i 0) s.heap.objs.size items.size h' → (∀ b o, s.heap.get? b = some o → h'.get? b = some o) → Q (.ref s.heap.objs.size) { s with heap := h', toks := tk }) :
    wpAny (model prog w) A (call (.type "set") [.ref l]) Q E s := by
  have T := F.called_set
  obtain ⟨c, tl, mro⟩ := T.mro
  have made := T.made
  have sub := T.sub
  have known := T.init.lookup
  have nt := T.notType
  have cc := T.canCreate
  have tc := F.typeCall_set_1 (.ref l)
  refine wpAny_call (codeAny_of_tree ?_)
  show wpAny _ _ (callAny (.type "set") _) _ _ _
  refine wpAny_pure ⟨Code.quiet_builtin _ (by decide +kernel), codeAny_builtin F.entry_type_call ?_⟩
  rw [Around.under_plain (weight_type_call_type "set" [.ref l] []) rfl]
  repeat (any_goals (first | assumption | wp_step))
  refine codeAny_mono (new_bare (w := w) (.ref l) (E := E) (Q := fun v z => v = .ref s.heap.objs.size ∧ z = { s with heap := s.heap.push (bareSet w) }) ⟨rfl, rfl⟩) fun r z hr => ?_
  cases r with
  | error e => exact hr
  | ok f =>
    cases f with
    | ret v =>
      obtain ⟨rfl, rfl⟩ := hr
      have hS : (s.heap.push (bareSet w)).get? s.heap.objs.size = some (bareSet w) := Heap.get?_push_size _ rfl
      have bind := T.init.bind (.ref s.heap.objs.size)
      have sub2 : isSubtype (bareSet w).cls (Value.type "set") = pure true := sub
      have known2 := known
      have ty : Shared.TypeIs { s with heap := s.heap.push (bareSet w) } (.ref s.heap.objs.size) "set" := ⟨_, hS, rfl⟩
      repeat (any_goals (first | assumption | wp_step))
      refine codeAny_mono (codeAny_call_builtin (R := wants (fun r z => r = .none ∧ ∃ h' tk, z = { s with heap := h', toks := tk } ∧ Grown w (fun i => ns.getD i 0) s.heap.objs.size items.size h' ∧ ∀ b o, s.heap.get? b = some o → h'.get? b = some o) E) T.init.plain F.entry_set_init (check_set_init_1 ty ?_)) fun r2 z2 h2 => ?_
      · refine init_bare (s := { s with heap := s.heap.push (bareSet w) }) (R := _) (S := s.heap.objs.size) (by simp [hh]) hS (hl.push _) hi room fun h' tk g k => ⟨rfl, h', tk, rfl, g, fun b o y => k b o (Nat.ne_of_lt (Heap.lt_size y)) (Heap.get?_push_of_some _ y)⟩
      · cases r2 with
        | error e => exact h2
        | ok f2 =>
          cases f2 with
          | ret v2 =>
            obtain ⟨rfl, h', tk, rfl, g, k⟩ := h2
            repeat (any_goals (first | assumption | wp_step))
            exact fin h' tk g k
          | _ => exact h2.elim
    | _ => exact hr.elim
end
end HT
namespace Cm
open PySem PySem.Spec PyProof.Rows L2
/-! ### sorted(set(xs)) of whole numbers -/
def rSrtU (K : PySem.W.Frag) (x : V) (H1 : Hp) (Q : VK) : Prop := ∃ (l : Addr) (ns : List Int), x = .ref l ∧ SqL K H1 l (ns.map V.int) ∧ (ns.length ≤ 1000 ∧ unl ns ≤ 60) ∧ ∀ (ms : List Int) (p : Addr), ms.Pairwise (· < ·) → (∀ k, k ∈ ms ↔ k ∈ ns) → H1 p = none → Q (.ref p) (upd H1 p (.lst (ms.map V.int)))
def tSrtU (K : PySem.W.Frag) (ta : TE) : TE := fun σ H Q => ta σ H fun x H1 => rSrtU K x H1 Q
theorem met_mem {ns : List Int} (k : Int) : (PyProof.Rows.firstMet (fun i => ns.getD i 0) ns.length).any (· == k) = true ↔ k ∈ ns := by
  rw [firstMet_any]
  have e : (List.range ns.length).map (fun i => ns.getD i 0) = ns := by
    refine List.ext_getElem? fun i => ?_
    rw [List.getElem?_map]
    by_cases c : i < ns.length
    · rw [List.getElem?_range c, List.getElem?_eq_getElem c]
      simp [List.getD_eq_getElem?_getD, c]
    · rw [List.getElem?_eq_none (by simpa using c), List.getElem?_eq_none (by simpa using c)]; rfl
  rw [e, List.any_eq_true]
  constructor
  · rintro ⟨x, hx, h⟩; rw [← eq_of_beq h]; exact hx
  · intro h; exact ⟨k, h, beq_self_eq_true k⟩
theorem pe_srtU {X : Cx} {a : Expr} {ta : TE} {p p2 q pos : Pos} (cm : X.calm = true) (gl : Gl X "sorted") (ml : X.mg "sorted" = none) (gs : Gl X "set") (ms : X.mg "set" = none) (pa : PE X a ta)
    (se : starEach [a] X.env = (false, eval a X.env) :: starEach [] X.env := by rfl) : PE X (.Call (.Name "sorted" p) [.Call (.Name "set" p2) [a] [] q] [] pos) (tSrtU X.K ta) := by
  constructor
  intro pins s σ H Q I h
  refine Call_ (ld_blt I gl ml boot_sorted (PyProof.Rows.callWith_builtin1 (PyProof.Rows.args_cons ?_ rfl) rfl rfl))
  refine Call_ (ld_blt I gs ms boot_set (PyProof.Rows.callWith_type1 (PyProof.Rows.args_cons (thn (pa.run pins s σ H _ I h) fun v s1 ⟨x, H1, J, rx, qx⟩ => PyProof.Rows.args_nil ?_) se) se rfl))
  obtain ⟨l, ns, rfl, hq, ⟨hl, few⟩, qx⟩ := qx
  cases rx
  obtain ⟨its, rv, pl, hz⟩ := J.list hq
  have size : its.toArray.size = ns.length := by rw [List.size_toArray, ← rv.length, List.length_map]
  unfold unl at few
  refine HT.set_of_ints (J.ok.hd cm) pl.isList (by simpa using RZ.intsAre_vals rv) (by rw [size]; unfold scanBound; omega) fun h' tk g k => PyProof.Rows.args_nil ?_
  rw [size] at g
  have J2 : Inv X pins σ H1 { s1 with heap := h', toks := tk } := J.kept k
  have g2 : SetR X.w ({ s1 with heap := h', toks := tk } : Shared).heap s1.heap.objs.size _ _ := g
  generalize s1.heap.objs.size = sa at g2 ⊢
  generalize ({ s1 with heap := h', toks := tk } : Shared) = s2 at J2 g2 ⊢
  refine sorted_set g2 (J2.ok.hd cm) (by omega) fun s3 p out c ms keep gens os hp hg hin hs hm len => ?_
  have fresh : H1 p = none := J2.hok.fresh hp
  have es : s3 = { s2 with heap := s3.heap, gens := s3.gens, drawn := s3.drawn, toks := s3.toks } := by
    cases s3
    cases s2
    cases os
    rfl
  rw [es]
  have line : (ms.map V.int).length ≤ sizeLine := by
    rw [List.length_map, len]
    exact sz (by omega)
  have J3 : Inv X pins σ (upd H1 p (.lst (ms.map V.int))) { s2 with heap := s3.heap, gens := s3.gens, drawn := s3.drawn, toks := s3.toks } :=
    J2.call (ch := []) (Un.laid keep hp fresh) (J2.hok.laid keep hp ⟨line, out.toList, c, vals_of_ints hin, hg⟩) (by rw [gens]; exact J2.bare) (fun _ z => nomatch z)
  exact ⟨.ref p, _, J3, rfl, qx ms p hs (fun k => (hm k).trans (met_mem k)) fresh⟩
instance {K : PySem.W.Frag} {σ : L2.St} {H : Hp} {Q : VK} {te : TE} : Stp (tSrtU K te σ H Q) (te σ H fun x H1 => rSrtU K x H1 Q) := ⟨id⟩
theorem k_srtU {K : PySem.W.Frag} {H : Hp} {Q : VK} {l : Addr} {ns : List Int} (hs : SqL K H l (ns.map V.int)) (hl : ns.length ≤ 1000) (hu : unl ns ≤ 60) (h : ∀ (ms : List Int) (p : Addr) H', ms.Pairwise (· < ·) → (∀ k, k ∈ ms ↔ k ∈ ns) → H p = none → Same H H' → H' p = some (.lst (ms.map V.int)) → Q (.ref p) H') : rSrtU K (.ref l) H Q := ⟨l, ns, rfl, hs, ⟨hl, hu⟩, fun ms p a b c => h ms p _ a b c (same_new c) upd_same⟩
end Cm
namespace Cm
open PySem PySem.Spec PyProof.Rows L2
/-! ### x (not) in range(..) -/
theorem rg_has (o : Addr) (p q st x : Int) (k1 k2 k3 k4 : Tok) :
    Meets (Builtin.«range.__contains__» ⟨[.ref o, .int x k4], []⟩) (fun _ W z => z.heap.get? o = some { cls := .type "range", data := .fields #[.int p k1, .int q k2, .int st k3], dict := none, slots := #[] } ∧ W (.ok (.ret (.bool (Builtin.Range.rangePlace? p q st x).isSome))) z) :=
  .of_wp fun prog w A W z hz => by
    obtain ⟨hp, gg, dd, kk, ss⟩ := z
    obtain ⟨there, hz⟩ := hz
    wp_walk
    exact ⟨_, rfl, hz⟩
def RgV (vs : List V) (a b c : Int) : Prop := (vs = [.int b] ∧ a = 0 ∧ c = 1) ∨ (vs = [.int a, .int b, .int c] ∧ 0 < c ∧ c < 1073741824)
def inRgB (neg : Bool) (a b c i : Int) : Bool := if neg then !(Builtin.Range.rangePlace? a b c i).isSome else (Builtin.Range.rangePlace? a b c i).isSome
def tInRg (neg : Bool) (ta : TE) (tA : TA) : TE := fun σ H Q => ta σ H fun x H1 => tA σ H1 fun vs H2 => ∃ i a b c, x = .int i ∧ RgV vs a b c ∧ Q (.bl (inRgB neg a b c i)) H2
def rgOp : Bool → CmpOp
  | true => .NotIn
  | false => .In
theorem cmp_rg {X : Cx} {neg : Bool} {pins : List (Addr × Obj)} {s : Shared} {σ : L2.St} {H : Hp} {Q : VK} {o : Addr} {p q st x : Int} {k1 k2 k3 k4 : Tok} (J : Inv X pins σ H s) (ho : s.heap.get? o = some { cls := .type "range", data := .fields #[.int p k1, .int q k2, .int st k3] })
    (h : Q (.bl (inRgB neg p q st x)) H) : wpAny (model X.prog X.w) X.A (compareOp (rgOp neg) (.int x k4) (.ref o)) (EP X pins σ Q) X.xe s := by
  have go : ∀ {R : Bool → Shared → Prop}, R (Builtin.Range.rangePlace? p q st x).isSome s → wpAny (model X.prog X.w) X.A (contains (Value.ref o) (Value.int x k4)) R X.xe s := fun h =>
    wpAny_contains_slot (T := "range") ⟨_, ho, rfl⟩ F.slot_range_contains (call_meets F.slot_range_contains ⟨_, ho, rfl⟩ F.entry_range_contains (F.args_range_contains_2 _ _) (rg_has o p q st x k1 k2 k3 k4) ⟨ho, wpAny_truthy_bool h⟩)
  cases neg with
  | false =>
    show wpAny _ _ (do return Value.bool (← contains (Value.ref o) (Value.int x k4))) _ _ s
    exact wpAny_bind (go (wpAny_pure ⟨.bl _, H, J, rfl, h⟩))
  | true =>
    show wpAny _ _ (do return Value.bool (!(← contains (Value.ref o) (Value.int x k4)))) _ _ s
    exact wpAny_bind (go (wpAny_pure ⟨.bl _, H, J, rfl, h⟩))
theorem pc_inRg {X : Cx} {neg : Bool} {a b : Expr} {rest : List Expr} {ta : TE} {tA : TA} {p pos : Pos} (hg : Gl X "range") (hm : X.mg "range" = none) (pa : PE X a ta) (pA : PA X (b :: rest) tA)
    (he : starEach (b :: rest) X.env = (false, eval b X.env) :: starEach rest X.env) (hpl : (backTo pos (starEach rest X.env)).any (·.1) = false) : PC X (rgOp neg) a (.Call (.Name "range" p) (b :: rest) [] pos) (tInRg neg ta tA) := by
  refine ⟨fun pins s σ H Q I h => ?_⟩
  refine thn (pa.run pins s σ H _ I h) fun v s1 ⟨x, H1, I1, rx, q1⟩ => ?_
  refine Call_ (ld_blt I1 hg hm boot_range (PyProof.Rows.callWith_type1 (thn (pA.run pos pins s1 σ H1 _ I1 q1) fun us s2 ⟨vs, H2, I2, rs, q2⟩ => ?_) he hpl))
  obtain ⟨i, lo, hi, st, rfl, hv, q⟩ := q2
  obtain ⟨k, rfl⟩ := rx
  rcases hv with ⟨rfl, rfl, rfl⟩ | ⟨rfl, c0, c1⟩
  · cases rs with | cons r1 rr =>
    cases rr
    obtain ⟨t1, rfl⟩ := r1
    refine call_range_1 ?_
    exact cmp_rg (I2.kept fun b o e => Heap.get?_push_of_some _ e) (Heap.get?_push_size _ rfl) q
  · cases rs with | cons r1 rr =>
    cases rr with | cons r2 rr =>
    cases rr with | cons r3 rr =>
    cases rr
    obtain ⟨t1, rfl⟩ := r1
    obtain ⟨t2, rfl⟩ := r2
    obtain ⟨t3, rfl⟩ := r3
    refine call_range_3 (by omega) ?_ (.inl (PyProof.noPylong_small (by omega)))
    exact cmp_rg (I2.kept fun b o e => Heap.get?_push_of_some _ e) (Heap.get?_push_size _ rfl) q
def iRgIn (neg : Bool) (x : V) (vs : List V) (H : Hp) (Q : VK) : Prop := ∃ i a b c, x = .int i ∧ RgV vs a b c ∧ Q (.bl (inRgB neg a b c i)) H
instance {σ : L2.St} {H : Hp} {Q : VK} {neg : Bool} {ta : TE} {tA : TA} : Stp (tInRg neg ta tA σ H Q) (ta σ H fun x H1 => tA σ H1 fun vs H2 => iRgIn neg x vs H2 Q) := ⟨id⟩
theorem place_has (a b c i : Int) (hc : 0 < c) : (Builtin.Range.rangePlace? a b c i).isSome = decide (a ≤ i ∧ i < b ∧ (i - a) % c = 0) := by
  unfold Builtin.Range.rangePlace?
  rw [if_pos hc]
  by_cases h1 : a ≤ i <;> by_cases h2 : i < b <;> by_cases h3 : (i - a) % c = 0 <;> simp [h1, h2, h3]
theorem k_inRg1 {neg : Bool} {H : Hp} {Q : VK} {i n : Int} (h : Q (.bl (if neg then !decide (0 ≤ i ∧ i < n) else decide (0 ≤ i ∧ i < n))) H) : iRgIn neg (.int i) [.int n] H Q := ⟨i, 0, n, 1, rfl, .inl ⟨rfl, rfl, rfl⟩, by
  have e : decide (0 ≤ i ∧ i < n ∧ (i - 0) % 1 = 0) = decide (0 ≤ i ∧ i < n) := by rw [decide_eq_decide]; constructor <;> omega
  unfold inRgB
  rw [place_has 0 n 1 i (by decide), e]
  exact h⟩
theorem k_inRg3 {neg : Bool} {H : Hp} {Q : VK} {i a b c : Int} (hc : 0 < c) (hc2 : c < 1073741824) (h : Q (.bl (if neg then !decide (a ≤ i ∧ i < b ∧ (i - a) % c = 0) else decide (a ≤ i ∧ i < b ∧ (i - a) % c = 0))) H) : iRgIn neg (.int i) [.int a, .int b, .int c] H Q := ⟨i, a, b, c, rfl, .inr ⟨rfl, hc, hc2⟩, by
  unfold inRgB
  rw [place_has a b c i hc]
  exact h⟩
end Cm

namespace Cm
open PySem PySem.Spec PyProof.Rows L2
/-! ### sorted(xs), xs a list of data -/
def byD (z : V × PyData) : PyData := z.2
def srtD (xs : List V) (ds : List PyData) : List (V × PyData) := (xs.zip ds).mergeSort (PySem.W.dataLe false byD)
def rSortD (K : PySem.W.Frag) : List V → Hp → VK → Prop := fun vs H Q => ∃ (a : Addr) (xs : List V) (ds : List PyData), vs = [V.ref a] ∧ SqL K H a xs ∧ DpAll K H xs ds ∧ PySem.W.AllAlike ds ∧ PySem.W.Sortable ds ∧ (∀ d ∈ ds, d.depth ≤ 62) ∧
  ∀ p, H p = none → Q (.ref p) (upd H p (.lst ((srtD xs ds).map Prod.fst)))
section
variable {X : Cx} {pins : List (Addr × Obj)} {σ : L2.St} {H : Hp} {s : Shared}
theorem zip_snd : ∀ {xs : List V} {ds : List PyData}, DpAll X.K H xs ds → (xs.zip ds).map byD = ds
  | _, _, .nil => rfl
  | _, _, .cons _ t => by rw [List.zip_cons_cons, List.map_cons, zip_snd t]; rfl
theorem zip_is (I : Inv X pins σ H s) : ∀ {xs : List V} {ds : List PyData} {us : List Value}, DpAll X.K H xs ds → Vals xs us → PySem.W.EachIs (fun v (z : V × PyData) => RelV z.1 v) us (xs.zip ds) ∧ PySem.W.EachIs (fun v (z : V × PyData) => ∃ as, Reads s.heap v (byD z) as) us (xs.zip ds)
  | _, _, _, .nil, .nil => ⟨.nil, .nil⟩
  | _, _, _, .cons h t, .cons r rt => by
    obtain ⟨h1, h2⟩ := zip_is I t rt
    exact ⟨.cons r h1, .cons (Dp.reads I _ _ _ h r) h2⟩
theorem is_vals : ∀ {us : List Value} {zs : List (V × PyData)}, PySem.W.EachIs (fun v (z : V × PyData) => RelV z.1 v) us zs → Vals (zs.map Prod.fst) us
  | _, _, .nil => .nil
  | _, _, .cons r t => .cons r (is_vals t)
theorem cr_sortD (hu : X.A.units + 64 < cLine) : CallR X (.builtin "sorted") (rSortD X.K) := by
  intro pins s σ H vs us Q I r h
  obtain ⟨a, xs, ds, rfl, hs, hd, al, so, dep, q⟩ := h
  obtain ⟨its, rv, hl, hz⟩ := I.list hs
  rw [Vals.ref1 r]
  obtain ⟨e, er⟩ := zip_is I hd rv
  have zs := zip_snd hd
  have lz : (xs.zip ds).length = xs.length := by
    rw [List.length_zip, dpa_len hd, Nat.min_self]
  refine PySem.W.sorted_data hl.isList e er (by rw [zs]; exact al) (by rw [zs]; exact so) (by rw [lz]; exact hz) (fun z hz' => ?_) (fun out lo eo => ?_)
  · have : byD z ∈ ds := by rw [← zs]; exact List.mem_map_of_mem hz'
    have := dep _ this
    omega
  · obtain ⟨ep, at1⟩ := PyProof.Rows.sortedAll_at s.heap its out.toArray
    refine ⟨.ref _, upd H (s.heap.objs.size + 1) (.lst ((srtD xs ds).map Prod.fst)), I.laid (t' := s.toks) (fun _ _ => PyProof.Rows.sortedAll_old) (Nat.le_succ _) ⟨?_, out, ep, is_vals eo, at1⟩, rfl, q _ (I.hok.fresh (Nat.le_succ _))⟩
    rw [List.length_map, srtD, List.length_mergeSort, lz]
    exact hz
end
end Cm
namespace HT
open PySem PySem.Spec PyProof.Rows L2
/-! ### x in d.values() -/
theorem ent_ci : entryFor table "proto.contains_iter" = some Builtin.«proto.contains_iter» := entryFor_of_tree (by kernel_rfl)
theorem pl_ci : plainId "proto.contains_iter" = true := by decide +kernel
theorem lk_vals : typeLookup (.type "dict_values") "__contains__" = pure none := by rfl
section
variable {prog : Program} {w : World} {A : Around} {E : Value → Shared → Prop} {s : Shared}
theorem seek_all {I : Addr} {fp wr : List Addr} {n : Nat} {P : Nat → Value → Prop} {St : Nat → Heap → Prop} {R : Result → Shared → Prop} {val : Nat → Int} {x : Int} {tk : Tok}
    (W : Walks prog w A.in1 I fp wr n P St) (hin : ∀ i v, P i v → ∃ t, v = .int (val i) t) :
    ∀ (left i : Nat) (z : Shared), i + left = n → St i z.heap → (∀ b h' k, (b = true ↔ ∃ j, i ≤ j ∧ j < n ∧ val j = x) → (∀ c o, c ∉ wr → z.heap.get? c = some o → h'.get? c = some o) → R (.ok (.ret (.bool b))) { z with heap := h', toks := k }) →
      codeAny (model prog w) A (.builtin "proto.contains_iter" ⟨[.ref I, .int x tk], []⟩) R z := by
  intro left
  induction left with
  | zero =>
    intro i z e st fin
    obtain rfl : i = n := e
    refine codeAny_builtin ent_ci ?_
    rw [Around.under_plainId pl_ci _]
    refine wpAny_bind (W.done z _ _ st fun h' k kp => ?_)
    refine wpAny_bind (wpAny_rule (wpAny_pure ?_))
    exact fin false h' k ⟨(fun y => by cases y), fun ⟨j, h1, h2, _⟩ => by omega⟩ kp
  | succ left ih =>
    intro i z e st fin
    refine codeAny_builtin ent_ci ?_
    rw [Around.under_plainId pl_ci _]
    refine wpAny_bind (W.item i z _ _ (by omega) st fun v h' k pv st' kp => ?_)
    obtain ⟨t, rfl⟩ := hin i v pv
    refine wpAny_bind (wpAny_eqBool_int ?_)
    by_cases c : val i = x
    · rw [show (val i == x) = true by rw [c]; simp, if_pos rfl]
      refine wpAny_bind (wpAny_rule (wpAny_pure ?_))
      exact fin true h' k ⟨fun _ => ⟨i, Nat.le_refl _, by omega, c⟩, fun _ => rfl⟩ kp
    · rw [show (val i == x) = false by simpa using c, if_neg (by decide)]
      refine wpAny_pure ⟨plainId_quiet pl_ci _, ih (i + 1) { z with heap := h', toks := k } (by omega) st' fun b h2 k2 hb kp2 => ?_⟩
      refine fin b h2 k2 (hb.trans ⟨fun ⟨j, h1, h2, h3⟩ => ⟨j, by omega, h2, h3⟩, fun ⟨j, h1, h2, h3⟩ => ⟨j, ?_, h2, h3⟩⟩) fun c o hc y => kp2 c o hc (kp c o hc y)
      by_cases e : j = i
      · exact absurd (e ▸ h3) c
      · omega
theorem in_view {K : Type} [DecidableEq K] {knd : PySem.KeyKind prog w K} {v d : Addr} {kvs : List (K × Value)} {ep : Nat} {is : List Int} {x : Int} {tk : Tok} {Q : Bool → Shared → Prop} (hh : A.handled = none) (hv : s.heap.IsValuesView v d) (hm : s.heap.DictAt knd d kvs ep)
    (vals : ∀ (i : Nat) (u : Value), (∃ k, kvs[i]? = some (k, u)) → ∃ t, u = Value.int (is.getD i 0) t) (ln : kvs.length = is.length)
    (fin : ∀ b h' k, (b = true ↔ x ∈ is) → (∀ c o, s.heap.get? c = some o → h'.get? c = some o) → Q b { s with heap := h', toks := k }) : wpAny (model prog w) A (contains (.ref v) (.int x tk)) Q E s := by
  have ty : s.TypeIs (.ref v) "dict_values" := hv.typeIs
  unfold contains
  refine wpAny_holding ?_
  rw [stdlibNamesSay?_of_typeIs ty]
  refine wpAny_bind (wpAny_specialOf ty lk_vals ?_)
  rw [if_neg (by decide)]
  refine wpAny_bind (wpAny_callSpecialUnlessNone?_none ty lk_vals ?_)
  refine wpAny_bind (wpAny_rule ?_)
  refine wpAny_bind (wpAny_tryCatch (wpAny_pyIter_values hv hm ?_))
  have dlt : d < s.heap.objs.size := by
    obtain ⟨o, es, ho, _⟩ := hm
    exact Heap.lt_size ho
  have up : ∀ b u, s.heap.get? b = some u → (s.heap.push { cls := .type "dict_valueiterator", data := .fields #[.ref d, .int 0 0, .int kvs.length 0, .int ep 0] }).get? b = some u := fun b u e => Heap.get?_push_of_some _ e
  refine wpAny_bind (wpAny_runValue (seek_all (val := fun i => is.getD i 0) (Walks.dictValues (knd := knd) (A := A.in1) hh s.heap.objs.size d (Nat.ne_of_lt dlt) kvs ep) vals kvs.length 0 _ (by omega) ⟨⟨_, Heap.get?_push_size _ rfl, rfl, rfl⟩, hm.keep up⟩ (fun b h' k hb kp => ?_)))
  refine wpAny_pure (fin b h' k (hb.trans ?_) fun c o y => kp c o (fun hc => ?_) (up c o y))
  · rw [List.mem_iff_getElem]
    constructor
    · rintro ⟨j, _, h2, h3⟩
      have hj : j < is.length := by omega
      refine ⟨j, hj, ?_⟩
      rw [← h3, List.getD_eq_getElem?_getD, List.getElem?_eq_getElem hj]; rfl
    · rintro ⟨j, hj, e⟩
      refine ⟨j, Nat.zero_le _, by omega, ?_⟩
      show is.getD j 0 = x
      rw [← e, List.getD_eq_getElem?_getD, List.getElem?_eq_getElem hj]; rfl
  · have e1 : c = s.heap.objs.size := List.mem_singleton.mp hc
    exact Nat.lt_irrefl _ (e1 ▸ Heap.lt_size y)
end
end HT
namespace Cm
open PySem PySem.Spec PyProof.Rows L2
def iInV (neg : Bool) (x y : V) (H : Hp) (Q : VK) : Prop := ∃ (i : Int) (a : Addr) (kvs : List (Key × V)) (is : List Int), x = .int i ∧ y = .ref a ∧ H a = some (.dK kvs) ∧ kvs.map (·.2) = is.map V.int ∧ Q (.bl (if neg then !decide (i ∈ is) else decide (i ∈ is))) H
def tInV (neg : Bool) (ta td : TE) : TE := fun σ H Q => ta σ H fun x H1 => td σ H1 fun y H2 => iInV neg x y H2 Q
instance {σ : L2.St} {H : Hp} {Q : VK} {neg : Bool} {ta td : TE} : Stp (tInV neg ta td σ H Q) (ta σ H fun x H1 => td σ H1 fun y H2 => iInV neg x y H2 Q) := ⟨id⟩
theorem pc_inVals {X : Cx} {neg : Bool} {a o : Expr} {apos mpos : Pos} {ta td : TE} (hc : X.calm = true) (pa : PE X a ta) (hd : PE X o td) (hbase : attributeBase o "values" X.env (eval o X.env) = eval o X.env := by rfl) (hline : (apos.endLine == mpos.line) = true := by rfl) :
    PC X (rgOp neg) a (.Call (.Attribute o "values" apos) [] [] mpos) (tInV neg ta td) := by
  refine ⟨fun pins s σ H Q I h => ?_⟩
  refine thn (pa.run pins s σ H _ I h) fun w0 s0 ⟨x, H0, I0, r0, q0⟩ => ?_
  refine wpAny_Call_method0_late hbase hline (thn (hd.run pins s0 σ H0 _ I0 q0) ?_)
  rintro v s1 ⟨y, H1, I1, r1, i, d, kvs, is, rfl, rfl, ha, hv, q⟩
  obtain rfl : v = Value.ref d := r1
  obtain ⟨tk, rfl⟩ := r0
  obtain ⟨_, hsys, vs, rel, dof⟩ := dk_of I1.hok ha
  obtain ⟨ep, dat⟩ := dof.dictAt
  obtain ⟨ob, es, ho, ex, hdat, hko, hpr, hnd⟩ := id dat
  have lv : vs.length = is.length := by
    have e1 : kvs.length = is.length := by simpa using congrArg List.length hv
    rw [← e1]; exact (KV.length rel).symm
  have vals : ∀ (i : Nat) (v : Value), (∃ k, vs[i]? = some (k, v)) → ∃ t, v = Value.int (is.getD i 0) t := by
    rintro j v ⟨k, hk⟩
    obtain ⟨z, h1, h2⟩ := KV.at' rel hk
    have e1 : (is.map V.int)[j]? = some z := by rw [← hv, List.getElem?_map, h1] <;> rfl
    rw [List.getElem?_map] at e1
    obtain ⟨m, hm, rfl⟩ := Option.map_eq_some_iff.mp e1
    obtain ⟨t, e3⟩ := h2
    exact ⟨t, by rw [e3, List.getD_eq_getElem?_getD, hm] <;> rfl⟩
  refine ⟨"dict", "dict.values", F.plainAttrs_dict, F.slot_dict_values, F.type_dict_values, ⟨ob, ho, ex.1⟩, fun b e => by cases e; exact ⟨ob, ho, ex.2.1⟩, Calls.callWith_builtin rfl (PySem.evalArgs_none ?_)⟩
  refine call_meetsIn F.slot_dict_values ⟨ob, ho, ex.1⟩ F.entry_dict_values (F.args_dict_values_1 _) (meets_dict_values (mixKind X.prog X.w) d hsys) ⟨⟨vs, dof⟩, ?_⟩
  have up : ∀ b u, s1.heap.get? b = some u → (s1.heap.push { cls := .type "dict_values", data := .fields #[.ref d] }).get? b = some u := fun b u e => Heap.get?_push_of_some _ e
  have go : ∀ {R : Bool → Shared → Prop}, (∀ b h' k, (b = true ↔ i ∈ is) → (∀ c o, (s1.heap.push { cls := .type "dict_values", data := .fields #[.ref d] }).get? c = some o → h'.get? c = some o) → R b { s1 with heap := h', toks := k }) → wpAny (model X.prog X.w) X.A (contains (.ref s1.heap.objs.size) (.int i tk)) R X.xe { s1 with heap := s1.heap.push { cls := .type "dict_values", data := .fields #[.ref d] } } := fun fin =>
    HT.in_view (I.ok.hd hc) (v := s1.heap.objs.size) (d := d) ⟨_, Heap.get?_push_size _ rfl, rfl, rfl⟩ (dat.keep up) vals lv fin
  have keep : ∀ {h' : Heap} {k : Nat}, (∀ c o, (s1.heap.push { cls := .type "dict_values", data := .fields #[.ref d] }).get? c = some o → h'.get? c = some o) → Inv X pins σ H1 { s1 with heap := h', toks := k } := fun {h' k} kp => I1.kept (t' := k) fun b u e => kp b u (up b u e)
  cases neg with
  | false =>
    show wpAny _ _ (do return Value.bool (← contains (Value.ref s1.heap.objs.size) (Value.int i tk))) _ _ _
    refine wpAny_bind (go fun b h' k hb kp => wpAny_pure ⟨.bl b, H1, keep kp, rfl, ?_⟩)
    have e : b = decide (i ∈ is) := by rw [Bool.eq_iff_iff, hb, decide_eq_true_eq]
    rw [e]; exact q
  | true =>
    show wpAny _ _ (do return Value.bool (!(← contains (Value.ref s1.heap.objs.size) (Value.int i tk)))) _ _ _
    refine wpAny_bind (go fun b h' k hb kp => wpAny_pure ⟨.bl !b, H1, keep kp, rfl, ?_⟩)
    have e : b = decide (i ∈ is) := by rw [Bool.eq_iff_iff, hb, decide_eq_true_eq]
    rw [e]; exact q
theorem k_inV {neg : Bool} {H : Hp} {Q : VK} {i : Int} {a : Addr} {kvs : List (Key × V)} {is : List Int} (e : H a = some (.dK kvs)) (hv : kvs.map (·.2) = is.map V.int) (h : Q (.bl (if neg then !decide (i ∈ is) else decide (i ∈ is))) H) : iInV neg (.int i) (.ref a) H Q := ⟨i, a, kvs, is, rfl, rfl, e, hv, h⟩
theorem k_nInV {H : Hp} {Q : VK} {i : Int} {a : Addr} {kvs : List (Key × V)} {is : List Int} (e : H a = some (.dK kvs)) (hv : kvs.map (·.2) = is.map V.int) (h : Q (.bl (!decide (i ∈ is))) H) : iInV true (.int i) (.ref a) H Q := k_inV e hv h
end Cm
namespace HT
open PySem PySem.Spec PyProof.Rows L2
/-! ### sum(lists, start) -/
def lsO (vs : List Value) (e : Nat) : Obj := { cls := .type "list", data := .seq vs.toArray e }
/-- the first i rows behind a start -/
def rowsTo (start : List Value) (row : Nat → List Value) : Nat → List Value
  | 0 => start
  | i + 1 => rowsTo start row i ++ row i
theorem rowsTo_len {start : List Value} {row : Nat → List Value} : ∀ {i n : Nat}, i ≤ n → (rowsTo start row i).length ≤ (rowsTo start row n).length
  | i, 0, h => by
    obtain rfl : i = 0 := by omega
    exact Nat.le_refl _
  | i, n + 1, h => by
    by_cases c : i = n + 1
    · rw [c]; exact Nat.le_refl _
    · have := rowsTo_len (start := start) (row := row) (show i ≤ n by omega)
      rw [rowsTo, List.length_append]
      omega
theorem a2_sum (a b : Value) : argsOk "sum" ⟨[a, b], []⟩ := by unfold argsOk; kernel_rfl
section
variable {prog : Program} {w : World} {A : Around} {E : Value → Shared → Prop} {s : Shared}
theorem cat_all {I : Addr} {fp wr : List Addr} {n : Nat} {P : Nat → Value → Prop} {St : Nat → Heap → Prop} {R : Result → Shared → Prop} {cs : Nat → Addr} {start : List Value} {row : Nat → List Value} {S : Addr} {h0 : Heap}
    (W : Walks prog w A.in1 I fp wr n P St) (hin : ∀ i v, P i v → v = .ref (cs i)) (hS : S ∉ fp) (hw : ∀ i h, St i h → ∀ b ∈ wr, b < h.objs.size) (rows : ∀ i, i < n → cs i ∉ wr ∧ cs i ≠ S ∧ ∃ e, h0.get? (cs i) = some (lsO (row i) e)) (room : (rowsTo start row n).length ≤ sizeLine) :
    ∀ (left i : Nat) (z : Shared) (T : Addr) (c e : Nat), i + left = n → St i z.heap → (∀ b o, b ∉ wr → b ≠ S → h0.get? b = some o → z.heap.get? b = some o) → z.heap.get? S = some { cls := .type "list", dict := none, data := .seq #[.ref T] c, slots := #[] } → T ∉ wr → T ≠ S → z.heap.get? T = some (lsO (rowsTo start row i) e) →
      (∀ T' h' k e', (left = 0 → T' = T) → (0 < left → ∀ q ∈ wr, q < T') → (∀ b o, b ∉ wr → b ≠ S → z.heap.get? b = some o → h'.get? b = some o) → h'.get? T' = some (lsO (rowsTo start row n) e') → R (.ok (.ret (.ref T'))) { z with heap := h', toks := k }) →
      codeAny (model prog w) A (.builtin "sum.loop" ⟨[.ref I, .ref S, rawInt 2, rawInt 0], []⟩) R z := by
  have hSw : S ∉ wr := fun h => hS (W.sub _ h)
  intro left
  induction left with
  | zero =>
    intro i z T c e hi st kp0 hz Tw TS eT fin
    obtain rfl : i = n := hi
    refine codeAny_builtin F.entry_sum_loop ?_
    rw [Around.under_plainId F.plain_sum_loop _]
    show wpAny _ A.in1 (seqItems? (.ref S) >>= _) _ _ z
    refine wpAny_bind (wpAny_seqItems hz rfl ?_)
    show wpAny _ A.in1 (tryCatch (pyNext (.ref I)) _ >>= _) _ _ z
    refine wpAny_bind (wpAny_tryCatch (W.done z _ _ st fun h' k kp => ?_))
    exact wpAny_pure (fin T h' k e (fun _ => rfl) (fun y => by omega) (fun b o hb _ y => kp b o hb y) (kp T _ Tw eT))
  | succ left ih =>
    intro i z T c e hi st kp0 hz Tw TS eT fin
    obtain ⟨cw, cS, e1, ec⟩ := rows i (by omega)
    refine codeAny_builtin F.entry_sum_loop ?_
    rw [Around.under_plainId F.plain_sum_loop _]
    show wpAny _ A.in1 (seqItems? (.ref S) >>= _) _ _ z
    refine wpAny_bind (wpAny_seqItems hz rfl ?_)
    show wpAny _ A.in1 (tryCatch (pyNext (.ref I)) _ >>= _) _ _ z
    refine wpAny_bind (wpAny_tryCatch (W.item i z _ _ (by omega) st fun v h' k pv st' kp => ?_))
    obtain rfl := hin i v pv
    have eS := kp S _ hSw hz
    have eT' := kp T _ Tw eT
    have ecz := kp (cs i) _ cw (kp0 (cs i) _ cw cS ec)
    have big : (rowsTo start row i).length + (row i).length ≤ sizeLine := by
      have := rowsTo_len (start := start) (row := row) (show i + 1 ≤ n by omega)
      rw [rowsTo, List.length_append] at this
      omega
    show wpAny _ A.in1 ((holding [Value.ref (cs i)] (binaryOp .Add (.ref T) (.ref (cs i)))).attempt >>= _) _ _ _
    refine wpAny_bind (wpAny_attempt (wpAny_holding (PySem.P.add_list eT' ecz ?_ (by rw [List.size_toArray, List.size_toArray]; exact big))))
    have ep : (rowsTo start row i).toArray ++ (row i).toArray = (rowsTo start row (i + 1)).toArray := by simp [rowsTo]
    rw [ep]
    have nS : S ≠ h'.objs.size := Nat.ne_of_lt (Heap.lt_size eS)
    have up : ∀ b o, h'.get? b = some o → (h'.push (lsO (rowsTo start row (i + 1)) 0)).get? b = some o := fun b o y => Heap.get?_push_of_some _ y
    have ePS := up S _ eS
    show wpAny _ A.in1 (updateSeq S (fun _ => #[.ref h'.objs.size]) >>= _) _ _ _
    refine wpAny_bind (wpAny_updateSeq ePS rfl ?_)
    have eS2 := Heap.get?_update_self (Obj.mapSeq fun _ => #[Value.ref h'.objs.size]) ePS rfl
    refine wpAny_bind (wpAny_letGo ?_)
    have keep2 : ∀ b o, b ≠ S → h'.get? b = some o → (((h'.push (lsO (rowsTo start row (i + 1)) 0)).update S (Obj.mapSeq fun _ => #[Value.ref h'.objs.size])).update S (Obj.mapSeq fun _ => #[Value.ref h'.objs.size])).get? b = some o := fun b o hb y =>
      (Heap.get?_update_other _ _ (Ne.symm hb)).trans ((Heap.get?_update_other _ _ (Ne.symm hb)).trans (up b o y))
    have eT2 : (((h'.push (lsO (rowsTo start row (i + 1)) 0)).update S (Obj.mapSeq fun _ => #[Value.ref h'.objs.size])).update S (Obj.mapSeq fun _ => #[Value.ref h'.objs.size])).get? h'.objs.size = some (lsO (rowsTo start row (i + 1)) 0) :=
      (Heap.get?_update_other _ _ nS).trans ((Heap.get?_update_other _ _ nS).trans (Heap.get?_push_size _ rfl))
    have big2 : ∀ b, b < h'.objs.size → b < (((h'.push (lsO (rowsTo start row (i + 1)) 0)).update S (Obj.mapSeq fun _ => #[Value.ref h'.objs.size])).update S (Obj.mapSeq fun _ => #[Value.ref h'.objs.size])).objs.size := fun b hb => by
      rw [Heap.size_update, Heap.size_update, Heap.size_push]
      omega
    refine wpAny_bind (wpAny_updateSeq eS2 rfl (wpAny_pure ⟨plainId_quiet F.plain_sum_loop _, ih (i + 1) _ h'.objs.size _ 0 (by omega) (W.frame _ _ _ st' fun b hb o y => keep2 b o (fun c => hS (c ▸ hb)) y) (fun b o hb hb2 y => keep2 b o hb2 (kp b o hb (kp0 b o hb hb2 y))) (Heap.get?_update_self _ eS2 rfl) ?_ (Ne.symm nS) eT2 fun T' h2 k2 e' h3 h4 h5 h6 => ?_⟩))
    · exact fun y => Nat.lt_irrefl _ (hw _ _ st' _ y)
    · refine fin T' h2 k2 e' (fun y => by omega) (fun _ q hq => ?_) (fun b o hb hb2 y => h5 b o hb hb2 (keep2 b o hb2 (kp b o hb y))) h6
      by_cases c0 : left = 0
      · rw [h3 c0]
        exact hw _ _ st' q hq
      · exact h4 (by omega) q hq
theorem nl_str : isSubtype (.type "list") (.type "str") = pure false := by rw [isSubtype_type]; kernel_rfl
theorem nl_bytes : isSubtype (.type "list") (.type "bytes") = pure false := by rw [isSubtype_type]; kernel_rfl
theorem nl_barr : isSubtype (.type "list") (.type "bytearray") = pure false := by rw [isSubtype_type]; kernel_rfl
theorem call_sumL {l b : Addr} {items : Array Value} {cs : Nat → Addr} {start : List Value} {row : Nat → List Value} {Q : Value → Shared → Prop} (hh : A.handled = none) (hl : s.heap.IsList l items) (hb : ∃ e, s.heap.get? b = some (lsO start e)) (hin : ∀ (i : Nat) v, items[i]? = some v → v = .ref (cs i)) (rows : ∀ i, i < items.size → ∃ e, s.heap.get? (cs i) = some (lsO (row i) e)) (room : (rowsTo start row items.size).length ≤ sizeLine)
    (fin : ∀ T h' k e', (items.size = 0 → T = b) → (0 < items.size → s.heap.objs.size ≤ T) → (∀ c o, s.heap.get? c = some o → h'.get? c = some o) → h'.get? T = some (lsO (rowsTo start row items.size) e') → Q (.ref T) { s with heap := h', toks := k }) :
    wpAny (model prog w) A (call (.builtin "sum") [.ref l, .ref b]) Q E s := by
  obtain ⟨eb, hb⟩ := hb
  refine call_function_tree F.kind_sum F.plain_sum F.entry_sum (a2_sum _ _) ?_
  unfold Builtin.«sum»
  simp only [List.length_cons, List.length_nil]
  rw [if_neg (by decide)]
  refine wpAny_bind (wpAny_of_eq (show Builtin.Builtins.bindParams "sum" ["start"] 0 ⟨[.ref b], []⟩ = pure [some (.ref b)] from rfl) ?_)
  refine wpAny_bind (wpAny_pyIter_list hl ?_)
  have lt : ∀ {c o}, s.heap.get? c = some o → c < s.heap.objs.size := fun e => Heap.lt_size e
  have up : ∀ c o, s.heap.get? c = some o → (s.heap.push { cls := .type "list_iterator", data := .fields #[.ref l, .int 0 0] }).get? c = some o := fun c o y => Heap.get?_push_of_some _ y
  have ty : ({ s with heap := s.heap.push { cls := .type "list_iterator", data := .fields #[.ref l, .int 0 0] } } : Shared).TypeIs (.ref b) "list" := ⟨_, up b _ hb, rfl⟩
  refine wpAny_bind (wpAny_pure ?_)
  simp only [List.forIn_cons, List.forIn_nil]
  refine wpAny_bind (wpAny_bind (wpAny_bind (wpAny_isInstance (T := "list") (b := false) ty nl_str ?_)))
  simp only [Bool.false_eq_true, if_false]
  refine wpAny_pure (wpAny_bind (wpAny_bind (wpAny_isInstance (T := "list") (b := false) ty nl_bytes ?_)))
  simp only [Bool.false_eq_true, if_false]
  refine wpAny_pure (wpAny_bind (wpAny_bind (wpAny_isInstance (T := "list") (b := false) ty nl_barr ?_)))
  simp only [Bool.false_eq_true, if_false]
  refine wpAny_pure (wpAny_pure ?_)
  refine wpAny_bind (wpAny_newObj_type ?_)
  obtain ⟨ol, hol, _⟩ := id hl
  have ltl := lt hol
  have sz : (s.heap.push { cls := .type "list_iterator", data := .fields #[.ref l, .int 0 0] }).objs.size = s.heap.objs.size + 1 := Heap.size_push _ _
  refine wpAny_pure ⟨plainId_quiet F.plain_sum_loop _, ?_⟩
  have up2 : ∀ c o, s.heap.get? c = some o → ((s.heap.push { cls := .type "list_iterator", data := .fields #[.ref l, .int 0 0] }).push { cls := .type "list", data := .seq #[.ref b] }).get? c = some o := fun c o y => Heap.get?_push_of_some _ (up c o y)
  have ne0 : ∀ {c : Addr}, c < s.heap.objs.size → c ∉ [s.heap.objs.size] := fun h hc => Nat.ne_of_lt h (List.mem_singleton.mp hc)
  have ne1 : ∀ {c : Addr}, c < s.heap.objs.size → c ≠ s.heap.objs.size + 1 := fun h => Nat.ne_of_lt (Nat.lt_succ_of_lt h)
  refine cat_all (h0 := s.heap) (start := start) (row := row) (Walks.list (prog := prog) (w := w) (A := A.in1) hh s.heap.objs.size l (Nat.ne_of_lt ltl) items) hin ?_ ?_ (fun i hi => ?_) room items.size 0 _ b 0 eb (by omega) ⟨⟨_, Heap.get?_push_of_some _ (Heap.get?_push_size _ rfl), rfl, rfl⟩, (hl.push _).push _⟩ (fun c o _ _ y => up2 c o y) (Heap.get?_push_size _ rfl) ?_ ?_ (up2 b _ hb) (fun T h' k e' h3 h4 h5 h6 => ?_)
  · simp only [List.mem_cons, List.not_mem_nil, or_false, not_or]
    constructor
    · show (s.heap.push _).objs.size ≠ _
      rw [sz]
      exact Nat.succ_ne_self _
    · show (s.heap.push _).objs.size ≠ _
      rw [sz]
      exact (ne1 ltl).symm
  · intro i h st c hc
    rw [show c = s.heap.objs.size from List.mem_singleton.mp hc]
    obtain ⟨⟨o, ho, _⟩, _⟩ := st
    exact Heap.lt_size ho
  · obtain ⟨e, he⟩ := rows i hi
    refine ⟨ne0 (lt he), ?_, e, he⟩
    show cs i ≠ (s.heap.push _).objs.size
    rw [sz]
    exact ne1 (lt he)
  · exact ne0 (lt hb)
  · show b ≠ (s.heap.push _).objs.size
    rw [sz]
    exact ne1 (lt hb)
  · refine fin T h' k e' h3 (fun hp => Nat.le_of_lt (h4 hp _ (List.mem_singleton.mpr rfl))) (fun c o y => ?_) h6
    · refine h5 c o (ne0 (lt y)) ?_ (up2 c o y)
      show c ≠ (s.heap.push _).objs.size
      rw [sz]
      exact ne1 (lt y)
end
end HT
namespace Cm
open PySem PySem.Spec PyProof.Rows L2
def rSumL (K : PySem.W.Frag) : List V → Hp → VK → Prop := fun vs H Q => ∃ (a b : Addr) (cs : List Addr) (rows : List (List V)) (st : List V), vs = [V.ref a, V.ref b] ∧ SqL K H a (cs.map V.ref) ∧ H b = some (.lst st) ∧ cs.length = rows.length ∧ (∀ (i : Nat) c r, cs[i]? = some c → rows[i]? = some r → H c = some (.lst r)) ∧ (st ++ rows.flatten).length ≤ 100000 ∧
  (rows = [] → Q (.ref b) H) ∧ (rows ≠ [] → ∀ p, H p = none → Q (.ref p) (upd H p (.lst (st ++ rows.flatten))))
theorem vals_at {xs : List V} {us : List Value} (h : Vals xs us) : ∀ {i : Nat} {u : Value}, us[i]? = some u → ∃ x, xs[i]? = some x ∧ RelV x u := by
  induction h with
  | nil => intro i u e; simp at e
  | cons r t ih =>
    intro i u e
    cases i with
    | zero =>
      simp only [List.getElem?_cons_zero, Option.some.injEq] at e
      subst e
      exact ⟨_, rfl, r⟩
    | succ i => exact ih (by simpa using e)
theorem rows_vals {st : List V} {rows : List (List V)} {start : List Value} {row : Nat → List Value} (h0 : Vals st start) (hr : ∀ i, i < rows.length → Vals (rows.getD i []) (row i)) : ∀ i, i ≤ rows.length → Vals (st ++ (rows.take i).flatten) (HT.rowsTo start row i)
  | 0, _ => by
    show Vals (st ++ (rows.take 0).flatten) start
    simpa using h0
  | i + 1, h => by
    have ih := rows_vals h0 hr i (by omega)
    have e : rows.take (i + 1) = rows.take i ++ [rows.getD i []] := by
      rw [List.take_add_one, List.getD_eq_getElem?_getD, List.getElem?_eq_getElem (show i < rows.length by omega)]; rfl
    rw [e, List.flatten_append, ← List.append_assoc]
    show Vals _ (HT.rowsTo start row i ++ row i)
    simpa using ih.append (hr i (by omega))
open Classical in
theorem cr_sumL {X : Cx} (hc : X.calm = true) : CallR X (.builtin "sum") (rSumL X.K) := by
  intro pins s σ H vs us Q I r h
  obtain ⟨a, b, cs, rows, st, rfl, hs, hb, hl, hrow, hz, q0, q1⟩ := h
  obtain ⟨its, rv, isl, _⟩ := I.list hs
  obtain ⟨z1, start, e1, r1, l1, g1⟩ := I.lstM hb
  obtain ⟨u1, u2, rfl, ra, rb⟩ := vals2 r
  obtain rfl : u1 = Value.ref a := ra
  obtain rfl : u2 = Value.ref b := rb
  have ln : its.toArray.size = rows.length := by rw [List.size_toArray, ← rv.length, List.length_map, hl]
  have each : ∀ i, i < rows.length → ∃ vsi e, Vals (rows.getD i []) vsi ∧ s.heap.get? (cs.getD i 0) = some (HT.lsO vsi e) := fun i hi => by
    have hc' : cs[i]? = some (cs.getD i 0) := by rw [List.getD_eq_getElem?_getD, List.getElem?_eq_getElem (by omega)]; rfl
    have hr' : rows[i]? = some (rows.getD i []) := by rw [List.getD_eq_getElem?_getD, List.getElem?_eq_getElem hi]; rfl
    obtain ⟨_, its', n', r', _, g'⟩ := I.lstM (hrow i _ _ hc' hr')
    exact ⟨its', n', r', g'⟩
  let row : Nat → List Value := fun i => if h : i < rows.length then (each i h).choose else []
  have hrv : ∀ i, (h : i < rows.length) → Vals (rows.getD i []) (row i) ∧ ∃ e, s.heap.get? (cs.getD i 0) = some (HT.lsO (row i) e) := fun i h => by
    have := (each i h).choose_spec
    have er : row i = (each i h).choose := dif_pos h
    rw [er]
    obtain ⟨e, p1, p2⟩ := this
    exact ⟨p1, e, p2⟩
  have rvs := rows_vals r1 (fun i h => (hrv i h).1)
  have full := rvs rows.length (Nat.le_refl _)
  rw [List.take_length] at full
  have line : (st ++ rows.flatten).length ≤ sizeLine := sz hz
  refine HT.call_sumL (I.ok.hd hc) (cs := fun i => cs.getD i 0) (start := start) (row := row) isl.isList ⟨e1, g1⟩ (fun i v hv => ?_) (fun i hi => (hrv i (by omega)).2) (by rw [ln, ← full.length]; exact line) (fun T h' k e' t0 t1 kp eT => ?_)
  · obtain ⟨x, hx, rx⟩ := vals_at rv (by simpa using hv)
    rw [List.getElem?_map] at hx
    obtain ⟨c, hc', rfl⟩ := Option.map_eq_some_iff.mp hx
    rw [List.getD_eq_getElem?_getD, hc']
    exact rx
  · rw [ln] at eT t0 t1
    by_cases c : rows = []
    · rw [t0 (by rw [c]; rfl)]
      exact ⟨.ref b, H, I.kept kp, rfl, q0 c⟩
    · have lp : 0 < rows.length := List.length_pos_iff.mpr c
      have ge : s.heap.objs.size ≤ T := t1 lp
      exact ⟨.ref T, upd H T (.lst (st ++ rows.flatten)), I.laid kp ge ⟨line, _, e', full, eT⟩, rfl, q1 c T (I.hok.fresh ge)⟩
end Cm
namespace Cm
open PySem PySem.Spec PyProof.Rows L2
theorem k_sumL {K : PySem.W.Frag} {H : Hp} {Q : VK} {a b : Addr} {cs : List Addr} {rows : List (List V)} {st : List V} (hs : SqL K H a (cs.map V.ref)) (hb : H b = some (.lst st)) (hl : cs.length = rows.length) (hr : ∀ (i : Nat) c r, cs[i]? = some c → rows[i]? = some r → H c = some (.lst r)) (hz : (st ++ rows.flatten).length ≤ 100000)
    (h : ∀ p H', (p = b ∨ H p = none) → Same H H' → H' p = some (.lst (st ++ rows.flatten)) → Q (.ref p) H') : rSumL K [.ref a, .ref b] H Q :=
  ⟨a, b, cs, rows, st, rfl, hs, hb, hl, hr, hz, fun e => h b H (.inl rfl) (Same.refl _) (by rw [e]; simpa using hb), fun _ p np => h p _ (.inr np) (same_new np) upd_same⟩
end Cm
namespace Cm
open PySem PySem.Spec PyProof.Rows L2
/-! ### an own exception made as a value -/
theorem pe_of_mk {X : Cx} {e : Expr} {t : L2.St → Hp → XK → Prop} (he : PMk X e t) : PE X e (fun σ H Q => t σ H fun cls d H' => ∀ a, H' a = none → Q (.ref a) (upd H' a (ExV cls d a))) :=
  ⟨fun pins s σ H Q I h => wpAny_mono (he pins s σ H _ I h) (fun u s1 hu => by
    obtain ⟨a, oe, vs, sI, H', cls, d, rfl, J, k, hne, ha, hz, hd, h1, na, os, ag, r, q⟩ := hu
    exact ⟨.ref a, upd H' a (ExV cls d a), J.call' (ch := []) os (Un.laidN k hne na) (J.hok.laidN k na (exV_ok ha hz hd)) ag (fun b z => absurd z (by simp)), rfl, q a na⟩) fun _ _ x => x⟩
/-- C(e), C with an __init__ that keeps sp, as a value -/
def tMkV (C : Addr) (sp : Sp) (ta : TA) : TE := fun σ H Q => tMkO C sp [] ta σ H fun cls d H' => ∀ a, H' a = none → Q (.ref a) (upd H' a (ExV cls d a))
theorem k_mkV {C : Addr} {f : Str} {ta : TA} {v : V} {σ : L2.St} {H : Hp} {Q : VK} (hta : ∀ (R : List V → Hp → Prop), R [v] H → ta σ H R) (h : ∀ d a, H d = none → (upd H d (.xd [(f, v)])) a = none → Q (.ref a) (upd (upd H d (.xd [(f, v)])) a (ExV (.ref C) (some d) a))) : tMkV C (spInit C f) ta σ H Q :=
  k_raiseO (E := fun cls d H' => ∀ a, H' a = none → Q (.ref a) (upd H' a (ExV cls d a))) (D := ⟨fun _ _ => False, fun _ _ => False, fun _ _ => False, fun _ _ => False⟩) hta fun d nd a na => h d a nd na
end Cm

namespace Pf
open PySem PySem.Spec PyProof.Rows L2 Cm
local macro_rules | `(tactic| wtm_at "smh") => `(tactic| with_reducible first
  | assumption
  | (refine Same.trans ?_ (by assumption); wtm_at "smx")
  | (refine Same.trans ?_ (hid_mono (by assumption)); wtm_at "smx"))
local macro_rules | `(tactic| wtm_at "smx") => `(tactic| with_reducible first
  | exact Same.refl _
  | assumption
  | exact hid_same _ _
  | (refine Same.trans ?_ (by assumption); wtm_at "smx")
  | (refine Same.trans ?_ (hid_mono (by assumption)); wtm_at "smx")
  | (apply hid_back; wtm_at "smh"))
local macro_rules | `(tactic| wtm_at "sm") => `(tactic| wtm_at "smx")
local macro_rules | `(tactic| wtm_at "at") => `(tactic| with_reducible first
  | assumption
  | exact upd_same
  | (refine at_same (by assumption) ?_; wtm_at "smx"))
local macro_rules | `(tactic| wtm_at "le") => `(tactic| with_reducible first
  | assumption
  | (refine Le.same (by assumption) ?_; wtm_at "smx"))
local macro_rules | `(tactic| wtm_at "dp") => `(tactic| with_reducible first
  | assumption
  | exact .int _
  | exact .str _
  | exact .bl _
  | (refine dp_same ?_ (by assumption); wtm_at "smx")
  | (refine dpa_same ?_ (by assumption); wtm_at "smx")
  | (refine dpI_at (by assumption) ?_; wtm_at "smx")
  | (refine dpP_at (by assumption) ?_; wtm_at "smx"))
local macro_rules | `(tactic| wtm_at "sq") => `(tactic| with_reducible first
  | assumption
  | exact sl (by assumption)
  | exact stp (by assumption)
  | (refine sl_at (by assumption) ?_; wtm_at "smx")
  | (refine st_at (by assumption) ?_; wtm_at "smx")
  | (refine Same.seq ?_ (by assumption); wtm_at "smx")
  | (refine same_seqT ?_ (by assumption); wtm_at "smx")
  | ((show SqL _ (upd _ _ _) _ _); exact sl upd_same)
  | ((show SqT _ (upd _ _ _) _ _); exact stp upd_same))
local macro_rules | `(tactic| wtm_at "cI") => `(tactic| first
  | (refine Or.inl ⟨?_, ?_⟩ <;> omega)
  | (refine Or.inr ⟨?_, ?_⟩ <;> omega)
  | (refine ⟨?_, ?_⟩ <;> omega)
  | decide)
local macro_rules | `(tactic| wtm_at "pf") => `(tactic| first | omega | decide)
local macro_rules | `(tactic| wtm_at "s2") => `(tactic| with_reducible first
  | ((show ite _ _ _); first
    | refine k_itDT (by with_unfolding_all wtm_at "pf") ?_
    | refine k_itDF (by with_unfolding_all wtm_at "pf") ?_
    | refine k_itNT (by with_unfolding_all wtm_at "pf") ?_
    | refine k_itNF (by with_unfolding_all wtm_at "pf") ?_)
  | ((show rLenX _ _ _ _); first
    | refine k_len0 (by assumption) ?_
    | refine k_lenI (by wtm_at "sq") ?_
    | refine k_len (by wtm_at "sq") ?_)
  | ((show gTup _ _ _ _ _ _ _); refine k_gtup (by wtm_at "sq") (by with_unfolding_all rfl) ?_)
  | ((show rIxT _ (V.ref _) (V.int _) _ _); refine k_ixT (by wtm_at "sq") (by with_unfolding_all rfl) ?_)
  | ((show wipe _ _ = wipe _ _ ∧ _); refine k_wipe (by with_unfolding_all rfl) ?_)
  | ((show rIn _ _ _ _ _ _); first
    | refine k_inI (by wtm_at "sq") ?_
    | refine k_notInI (by wtm_at "sq") ?_)
  | ((show rIsi _ _ _ _); refine k_isiL (by wtm_at "sq") ?_)
  | ((show xMod _ _ _ _); refine k_mod (by with_unfolding_all first | decide | omega) ?_)
  | ((show xMul _ _ _ _); refine k_mul (by with_unfolding_all wtm_at "cI") ?_)
  | ((show xDiv _ _ _ _); refine k_div (by with_unfolding_all wtm_at "cI") ?_)
  | ((show xPow _ _ _ _); refine k_pow (by with_unfolding_all exact ⟨by decide, by decide, by decide⟩) ?_)
  | ((show rMinT _ _ _ _); refine k_minT (by wtm_at "sq") ?_)
  | ((show rMaxT _ _ _ _); refine k_maxT (by wtm_at "sq") ?_)
  | ((show ∃ j' : Int, [V.int _] = [.int j'] ∧ _); refine k_rj1 (by with_unfolding_all omega) (by with_unfolding_all omega) ?_)
  | ((show ∃ i' j' : Int, [V.int _, V.int _] = [.int i', .int j'] ∧ _); refine k_rj2 (by with_unfolding_all omega) ?_))
local macro_rules | `(tactic| wtm_at "s1") => `(tactic| first
  | refine go ?_
  | wtm_at "s2")
local macro_rules | `(tactic| wtm_at "s") => `(tactic| repeat wtm_at "s1")
def topS (i : Nat) : Stmt := PySem.Challenge.pw_tiehues_k04_refusals_made.main.body.getD i (.Pass ⟨0, 0, 0, 0⟩)
abbrev s_must_be_crossing : Stmt := topS 21
theorem sc_must_be_crossing : FnScope ["crossing", "many", "pairs", "s", "t"] ["crossing"] (defScope s_must_be_crossing) := ⟨rfl, rfl, rfl, by decide +kernel, rfl, by decide +kernel, by decide +kernel⟩
abbrev s_cross_hues : Stmt := topS 24
theorem sc_cross_hues : FnScope ["crossing", "meeting", "k"] ["crossing"] (defScope s_cross_hues) := ⟨rfl, rfl, rfl, by decide +kernel, rfl, by decide +kernel, by decide +kernel⟩
abbrev s_is_lot : Stmt := topS 25
theorem sc_is_lot : FnScope ["crossing", "lot", "k"] ["crossing", "lot"] (defScope s_is_lot) := ⟨rfl, rfl, rfl, by decide +kernel, rfl, by decide +kernel, by decide +kernel⟩
abbrev s_lot_bound : Stmt := topS 27
theorem sc_lot_bound : FnScope ["crossing", "lot"] ["crossing", "lot"] (defScope s_lot_bound) := ⟨rfl, rfl, rfl, by decide +kernel, rfl, by decide +kernel, by decide +kernel⟩
abbrev s_is_tree : Stmt := topS 30
theorem sc_is_tree : FnScope ["parents", "k"] ["parents"] (defScope s_is_tree) := ⟨rfl, rfl, rfl, by decide +kernel, rfl, by decide +kernel, by decide +kernel⟩
abbrev s_look_net : Stmt := topS 31
theorem sc_look_net : FnScope ["net", "kind", "size", "right"] ["net"] (defScope s_look_net) := ⟨rfl, rfl, rfl, by decide +kernel, rfl, by decide +kernel, by decide +kernel⟩
abbrev s_must_be_kind : Stmt := topS 32
theorem sc_must_be_kind : FnScope ["net", "kind"] ["net", "kind"] (defScope s_must_be_kind) := ⟨rfl, rfl, rfl, by decide +kernel, rfl, by decide +kernel, by decide +kernel⟩
abbrev s_places_of : Stmt := topS 33
theorem sc_places_of : FnScope ["net"] ["net"] (defScope s_places_of) := ⟨rfl, rfl, rfl, by decide +kernel, rfl, by decide +kernel, by decide +kernel⟩
abbrev s_is_way : Stmt := topS 35
theorem sc_is_way : FnScope ["net", "way", "a", "b"] ["net", "way"] (defScope s_is_way) := ⟨rfl, rfl, rfl, by decide +kernel, rfl, by decide +kernel, by decide +kernel⟩
abbrev s_ties_on : Stmt := topS 36
theorem sc_ties_on : FnScope ["net", "way", "a", "b", "found"] ["net", "way"] (defScope s_ties_on) := ⟨rfl, rfl, rfl, by decide +kernel, rfl, by decide +kernel, by decide +kernel⟩
abbrev s_must_be_ways : Stmt := topS 37
theorem sc_must_be_ways : FnScope ["net", "ways", "k"] ["net", "ways"] (defScope s_must_be_ways) := ⟨rfl, rfl, rfl, by decide +kernel, rfl, by decide +kernel, by decide +kernel⟩
abbrev s_first_clash : Stmt := topS 39
theorem sc_first_clash : FnScope ["lain", "hues", "i", "j", "tie"] ["lain", "hues"] (defScope s_first_clash) := ⟨rfl, rfl, rfl, by decide +kernel, rfl, by decide +kernel, by decide +kernel⟩
abbrev s_hues_of : Stmt := topS 42
theorem sc_hues_of : FnScope ["level"] ["level"] (defScope s_hues_of) := ⟨rfl, rfl, rfl, by decide +kernel, rfl, by decide +kernel, by decide +kernel⟩
abbrev s_meet : Stmt := topS 43
theorem sc_meet : FnScope ["one", "other"] ["one", "other"] (defScope s_meet) := ⟨rfl, rfl, rfl, by decide +kernel, rfl, by decide +kernel, by decide +kernel⟩
abbrev s_line_hues : Stmt := topS 46
theorem sc_line_hues : FnScope ["net", "ways", "hues", "ahead", "k", "begin", "taken", "each", "j", "hue"] ["net", "ways"] (defScope s_line_hues) := ⟨rfl, rfl, rfl, by decide +kernel, rfl, by decide +kernel, by decide +kernel⟩
abbrev s_ties_at : Stmt := topS 48
theorem sc_ties_at : FnScope ["net", "place", "parents", "k"] ["net", "place"] (defScope s_ties_at) := ⟨rfl, rfl, rfl, by decide +kernel, rfl, by decide +kernel, by decide +kernel⟩
abbrev s_crossing_of : Stmt := topS 49
theorem sc_crossing_of : FnScope ["net", "ways", "place", "here", "pairs", "numbers", "k", "some", "tie"] ["net", "ways", "place"] (defScope s_crossing_of) := ⟨rfl, rfl, rfl, by decide +kernel, rfl, by decide +kernel, by decide +kernel⟩
abbrev s_crossing_at : Stmt := topS 50
theorem sc_crossing_at : FnScope ["net", "ways", "place"] ["net", "ways", "place"] (defScope s_crossing_at) := ⟨rfl, rfl, rfl, by decide +kernel, rfl, by decide +kernel, by decide +kernel⟩
abbrev s_are_right : Stmt := topS 52
theorem sc_are_right : FnScope ["crossing", "hues", "pair"] ["crossing", "hues"] (defScope s_are_right) := ⟨rfl, rfl, rfl, by decide +kernel, rfl, by decide +kernel, by decide +kernel⟩
abbrev s_join_hues : Stmt := topS 53
theorem sc_join_hues : FnScope ["net", "ways", "lists", "place"] ["net", "ways", "lists"] (defScope s_join_hues) := ⟨rfl, rfl, rfl, by decide +kernel, rfl, by decide +kernel, by decide +kernel⟩
abbrev s_law_mix : Stmt := topS 55
theorem sc_law_mix : FnScope ["_law_number", "_law_k", "_law_mixed"] ["_law_number", "_law_k"] (defScope s_law_mix) := ⟨rfl, rfl, rfl, by decide +kernel, rfl, by decide +kernel, by decide +kernel⟩
abbrev s_law_cell_at : Stmt := topS 56
theorem sc_law_cell_at : FnScope ["_law_script", "_law_k"] ["_law_script", "_law_k"] (defScope s_law_cell_at) := ⟨rfl, rfl, rfl, by decide +kernel, rfl, by decide +kernel, by decide +kernel⟩
abbrev s_law_left : Stmt := topS 57
theorem sc_law_left : FnScope ["_law_script", "_law_k", "_law_cell"] ["_law_script", "_law_k"] (defScope s_law_left) := ⟨rfl, rfl, rfl, by decide +kernel, rfl, by decide +kernel, by decide +kernel⟩
abbrev s_law_draw : Stmt := topS 58
theorem sc_law_draw : FnScope ["_law_left_here", "_law_base", "_law_mixed", "_law_digit"] ["_law_left_here", "_law_base"] (defScope s_law_draw) := ⟨rfl, rfl, rfl, by decide +kernel, rfl, by decide +kernel, by decide +kernel⟩
abbrev s_law_marks : Stmt := topS 59
theorem sc_law_marks : FnScope ["_law_caught", "_law_found", "_law_k"] ["_law_caught"] (defScope s_law_marks) := ⟨rfl, rfl, rfl, by decide +kernel, rfl, by decide +kernel, by decide +kernel⟩
abbrev s_law_asked : Stmt := topS 60
theorem sc_law_asked : FnScope ["_law_which", "_law_size", "_law_net", "_law_giver", "_law_turn"] ["_law_which", "_law_size"] (defScope s_law_asked) := ⟨rfl, rfl, rfl, by decide +kernel, rfl, by decide +kernel, by decide +kernel⟩
abbrev s_law_refused : Stmt := topS 61
theorem sc_law_refused : FnScope ["_law_which", "_law_size", "_law_caught", "e"] ["_law_which", "_law_size"] (defScope s_law_refused) := ⟨rfl, rfl, rfl, by decide +kernel, rfl, by decide +kernel, by decide +kernel⟩
abbrev s_law : Stmt := topS 62
theorem sc_law : FnScope ["_law_script", "_law_cell", "_law_left_here", "_law_size", "_law_number", "_law_row", "_law_made", "_law_one", "_law_which", "_law_k"] ["_law_script"] (defScope s_law) := ⟨rfl, rfl, rfl, by decide +kernel, rfl, by decide +kernel, by decide +kernel⟩
abbrev s_Giver_init : Stmt := inClass (topS 44) 0
theorem sc_Giver_init : FnScope ["self", "net", "tie"] ["self", "net"] (defScope s_Giver_init) := ⟨rfl, rfl, rfl, by decide +kernel, rfl, by decide +kernel, by decide +kernel⟩
abbrev s_Giver_level_for : Stmt := inClass (topS 44) 1
theorem sc_Giver_level_for : FnScope ["self", "ties", "i", "tie"] ["self", "ties"] (defScope s_Giver_level_for) := ⟨rfl, rfl, rfl, by decide +kernel, rfl, by decide +kernel, by decide +kernel⟩
abbrev s_Giver_own_for : Stmt := inClass (topS 44) 2
theorem sc_Giver_own_for : FnScope ["self", "ties", "i", "tie"] ["self", "ties", "i"] (defScope s_Giver_own_for) := ⟨rfl, rfl, rfl, by decide +kernel, rfl, by decide +kernel, by decide +kernel⟩
abbrev s_Giver_counted_in : Stmt := inClass (topS 44) 3
theorem sc_Giver_counted_in : FnScope ["self", "ties", "i", "tie", "j"] ["self", "ties", "i"] (defScope s_Giver_counted_in) := ⟨rfl, rfl, rfl, by decide +kernel, rfl, by decide +kernel, by decide +kernel⟩
abbrev s_Giver_put : Stmt := inClass (topS 44) 4
theorem sc_Giver_put : FnScope ["self", "way", "ties", "i", "taken", "hue", "k", "one"] ["self", "way"] (defScope s_Giver_put) := ⟨rfl, rfl, rfl, by decide +kernel, rfl, by decide +kernel, by decide +kernel⟩
abbrev s_init_NoWay : Stmt := inClass (topS 5) 0
theorem sc_init_NoWay : FnScope ["self", "at"] ["self", "at"] (defScope s_init_NoWay) := ⟨rfl, rfl, rfl, by decide +kernel, rfl, by decide +kernel, by decide +kernel⟩
abbrev s_init_NoHues : Stmt := inClass (topS 7) 0
theorem sc_init_NoHues : FnScope ["self", "place"] ["self", "place"] (defScope s_init_NoHues) := ⟨rfl, rfl, rfl, by decide +kernel, rfl, by decide +kernel, by decide +kernel⟩
abbrev s_init_NoText : Stmt := inClass (topS 14) 0
theorem sc_init_NoText : FnScope ["self", "row"] ["self", "row"] (defScope s_init_NoText) := ⟨rfl, rfl, rfl, by decide +kernel, rfl, by decide +kernel, by decide +kernel⟩
structure Ad where
  c_TieError : Addr
  c_NoNet : Addr
  c_OtherNet : Addr
  c_NoWay : Addr
  c_TooMany : Addr
  c_NoHues : Addr
  c_NoCrossing : Addr
  c_NoLot : Addr
  c_NoPlace : Addr
  c_NoNumber : Addr
  c_NoTurning : Addr
  c_NoTie : Addr
  c_NoText : Addr
  c_NoRow : Addr
  c_NoName : Addr
  c_NoForm : Addr
  i_NoWay : Addr
  di_NoWay : FuncData
  i_NoHues : Addr
  di_NoHues : FuncData
  i_NoText : Addr
  di_NoText : FuncData
  c_Giver : Addr
  a_must_be_crossing : Addr
  d_must_be_crossing : FuncData
  a_cross_hues : Addr
  d_cross_hues : FuncData
  a_is_lot : Addr
  d_is_lot : FuncData
  a_lot_bound : Addr
  d_lot_bound : FuncData
  a_is_tree : Addr
  d_is_tree : FuncData
  a_look_net : Addr
  d_look_net : FuncData
  a_must_be_kind : Addr
  d_must_be_kind : FuncData
  a_places_of : Addr
  d_places_of : FuncData
  a_is_way : Addr
  d_is_way : FuncData
  a_ties_on : Addr
  d_ties_on : FuncData
  a_must_be_ways : Addr
  d_must_be_ways : FuncData
  a_first_clash : Addr
  d_first_clash : FuncData
  a_hues_of : Addr
  d_hues_of : FuncData
  a_meet : Addr
  d_meet : FuncData
  a_line_hues : Addr
  d_line_hues : FuncData
  a_ties_at : Addr
  d_ties_at : FuncData
  a_crossing_of : Addr
  d_crossing_of : FuncData
  a_crossing_at : Addr
  d_crossing_at : FuncData
  a_are_right : Addr
  d_are_right : FuncData
  a_join_hues : Addr
  d_join_hues : FuncData
  a_law_mix : Addr
  d_law_mix : FuncData
  a_law_cell_at : Addr
  d_law_cell_at : FuncData
  a_law_left : Addr
  d_law_left : FuncData
  a_law_draw : Addr
  d_law_draw : FuncData
  a_law_marks : Addr
  d_law_marks : FuncData
  a_law_asked : Addr
  d_law_asked : FuncData
  a_law_refused : Addr
  d_law_refused : FuncData
  a_law : Addr
  d_law : FuncData
  a_Giver_init : Addr
  d_Giver_init : FuncData
  a_Giver_level_for : Addr
  d_Giver_level_for : FuncData
  a_Giver_own_for : Addr
  d_Giver_own_for : FuncData
  a_Giver_counted_in : Addr
  d_Giver_counted_in : FuncData
  a_Giver_put : Addr
  d_Giver_put : FuncData
structure Txt (K : PySem.W.Frag) (mg : Str → Option Value) (A : Ad) : Prop where
  g_must_be_crossing : mg "must_be_crossing" = some (.ref A.a_must_be_crossing)
  F_must_be_crossing : Fun K "must_be_crossing" "must_be_crossing" s_must_be_crossing A.a_must_be_crossing A.d_must_be_crossing
  b_must_be_crossing : Binds K A.d_must_be_crossing ["crossing"] []
  g_cross_hues : mg "cross_hues" = some (.ref A.a_cross_hues)
  F_cross_hues : Fun K "cross_hues" "cross_hues" s_cross_hues A.a_cross_hues A.d_cross_hues
  b_cross_hues : Binds K A.d_cross_hues ["crossing"] []
  g_is_lot : mg "is_lot" = some (.ref A.a_is_lot)
  F_is_lot : Fun K "is_lot" "is_lot" s_is_lot A.a_is_lot A.d_is_lot
  b_is_lot : Binds K A.d_is_lot ["crossing", "lot"] []
  g_lot_bound : mg "lot_bound" = some (.ref A.a_lot_bound)
  F_lot_bound : Fun K "lot_bound" "lot_bound" s_lot_bound A.a_lot_bound A.d_lot_bound
  b_lot_bound : Binds K A.d_lot_bound ["crossing", "lot"] []
  g_is_tree : mg "is_tree" = some (.ref A.a_is_tree)
  F_is_tree : Fun K "is_tree" "is_tree" s_is_tree A.a_is_tree A.d_is_tree
  b_is_tree : Binds K A.d_is_tree ["parents"] []
  g_look_net : mg "look_net" = some (.ref A.a_look_net)
  F_look_net : Fun K "look_net" "look_net" s_look_net A.a_look_net A.d_look_net
  b_look_net : Binds K A.d_look_net ["net"] []
  g_must_be_kind : mg "must_be_kind" = some (.ref A.a_must_be_kind)
  F_must_be_kind : Fun K "must_be_kind" "must_be_kind" s_must_be_kind A.a_must_be_kind A.d_must_be_kind
  b_must_be_kind : Binds K A.d_must_be_kind ["net", "kind"] []
  g_places_of : mg "places_of" = some (.ref A.a_places_of)
  F_places_of : Fun K "places_of" "places_of" s_places_of A.a_places_of A.d_places_of
  b_places_of : Binds K A.d_places_of ["net"] []
  g_is_way : mg "is_way" = some (.ref A.a_is_way)
  F_is_way : Fun K "is_way" "is_way" s_is_way A.a_is_way A.d_is_way
  b_is_way : Binds K A.d_is_way ["net", "way"] []
  g_ties_on : mg "ties_on" = some (.ref A.a_ties_on)
  F_ties_on : Fun K "ties_on" "ties_on" s_ties_on A.a_ties_on A.d_ties_on
  b_ties_on : Binds K A.d_ties_on ["net", "way"] []
  g_must_be_ways : mg "must_be_ways" = some (.ref A.a_must_be_ways)
  F_must_be_ways : Fun K "must_be_ways" "must_be_ways" s_must_be_ways A.a_must_be_ways A.d_must_be_ways
  b_must_be_ways : Binds K A.d_must_be_ways ["net", "ways"] []
  g_first_clash : mg "first_clash" = some (.ref A.a_first_clash)
  F_first_clash : Fun K "first_clash" "first_clash" s_first_clash A.a_first_clash A.d_first_clash
  b_first_clash : Binds K A.d_first_clash ["lain", "hues"] []
  g_hues_of : mg "hues_of" = some (.ref A.a_hues_of)
  F_hues_of : Fun K "hues_of" "hues_of" s_hues_of A.a_hues_of A.d_hues_of
  b_hues_of : Binds K A.d_hues_of ["level"] []
  g_meet : mg "meet" = some (.ref A.a_meet)
  F_meet : Fun K "meet" "meet" s_meet A.a_meet A.d_meet
  b_meet : Binds K A.d_meet ["one", "other"] []
  g_line_hues : mg "line_hues" = some (.ref A.a_line_hues)
  F_line_hues : Fun K "line_hues" "line_hues" s_line_hues A.a_line_hues A.d_line_hues
  b_line_hues : Binds K A.d_line_hues ["net", "ways"] []
  g_ties_at : mg "ties_at" = some (.ref A.a_ties_at)
  F_ties_at : Fun K "ties_at" "ties_at" s_ties_at A.a_ties_at A.d_ties_at
  b_ties_at : Binds K A.d_ties_at ["net", "place"] []
  g_crossing_of : mg "crossing_of" = some (.ref A.a_crossing_of)
  F_crossing_of : Fun K "crossing_of" "crossing_of" s_crossing_of A.a_crossing_of A.d_crossing_of
  b_crossing_of : Binds K A.d_crossing_of ["net", "ways", "place"] []
  g_crossing_at : mg "crossing_at" = some (.ref A.a_crossing_at)
  F_crossing_at : Fun K "crossing_at" "crossing_at" s_crossing_at A.a_crossing_at A.d_crossing_at
  b_crossing_at : Binds K A.d_crossing_at ["net", "ways", "place"] []
  g_are_right : mg "are_right" = some (.ref A.a_are_right)
  F_are_right : Fun K "are_right" "are_right" s_are_right A.a_are_right A.d_are_right
  b_are_right : Binds K A.d_are_right ["crossing", "hues"] []
  g_join_hues : mg "join_hues" = some (.ref A.a_join_hues)
  F_join_hues : Fun K "join_hues" "join_hues" s_join_hues A.a_join_hues A.d_join_hues
  b_join_hues : Binds K A.d_join_hues ["net", "ways", "lists"] []
  g_law_mix : mg "_law_mix" = some (.ref A.a_law_mix)
  F_law_mix : Fun K "_law_mix" "_law_mix" s_law_mix A.a_law_mix A.d_law_mix
  b_law_mix : Binds K A.d_law_mix ["_law_number", "_law_k"] []
  g_law_cell_at : mg "_law_cell_at" = some (.ref A.a_law_cell_at)
  F_law_cell_at : Fun K "_law_cell_at" "_law_cell_at" s_law_cell_at A.a_law_cell_at A.d_law_cell_at
  b_law_cell_at : Binds K A.d_law_cell_at ["_law_script", "_law_k"] []
  g_law_left : mg "_law_left" = some (.ref A.a_law_left)
  F_law_left : Fun K "_law_left" "_law_left" s_law_left A.a_law_left A.d_law_left
  b_law_left : Binds K A.d_law_left ["_law_script", "_law_k"] []
  g_law_draw : mg "_law_draw" = some (.ref A.a_law_draw)
  F_law_draw : Fun K "_law_draw" "_law_draw" s_law_draw A.a_law_draw A.d_law_draw
  b_law_draw : Binds K A.d_law_draw ["_law_left_here", "_law_base"] []
  g_law_marks : mg "_law_marks" = some (.ref A.a_law_marks)
  F_law_marks : Fun K "_law_marks" "_law_marks" s_law_marks A.a_law_marks A.d_law_marks
  b_law_marks : Binds K A.d_law_marks ["_law_caught"] []
  g_law_asked : mg "_law_asked" = some (.ref A.a_law_asked)
  F_law_asked : Fun K "_law_asked" "_law_asked" s_law_asked A.a_law_asked A.d_law_asked
  b_law_asked : Binds K A.d_law_asked ["_law_which", "_law_size"] []
  g_law_refused : mg "_law_refused" = some (.ref A.a_law_refused)
  F_law_refused : Fun K "_law_refused" "_law_refused" s_law_refused A.a_law_refused A.d_law_refused
  b_law_refused : Binds K A.d_law_refused ["_law_which", "_law_size"] []
  g_law : mg "law" = some (.ref A.a_law)
  F_law : Fun K "law" "law" s_law A.a_law A.d_law
  b_law : Binds K A.d_law ["_law_script"] []
  k_Giver : mg "Giver" = some (.ref A.c_Giver)
  M_Giver : Mk K A.c_Giver A.a_Giver_init
  F_Giver_init : Fun K "__init__" "Giver.__init__" s_Giver_init A.a_Giver_init A.d_Giver_init
  K_Giver : Cls K A.c_Giver
  N_Giver_net : NoAttr K A.c_Giver "net"
  N_Giver_come : NoAttr K A.c_Giver "come"
  N_Giver_lain : NoAttr K A.c_Giver "lain"
  N_Giver_given : NoAttr K A.c_Giver "given"
  N_Giver_level : NoAttr K A.c_Giver "level"
  N_Giver_own : NoAttr K A.c_Giver "own"
  N_Giver_upto : NoAttr K A.c_Giver "upto"
  b_Giver_init : Binds K A.d_Giver_init ["self", "net"] []
  Me_Giver_level_for : Meth K A.c_Giver "level_for" A.a_Giver_level_for
  F_Giver_level_for : Fun K "level_for" "Giver.level_for" s_Giver_level_for A.a_Giver_level_for A.d_Giver_level_for
  b_Giver_level_for : Binds K A.d_Giver_level_for ["self", "ties"] []
  Me_Giver_own_for : Meth K A.c_Giver "own_for" A.a_Giver_own_for
  F_Giver_own_for : Fun K "own_for" "Giver.own_for" s_Giver_own_for A.a_Giver_own_for A.d_Giver_own_for
  b_Giver_own_for : Binds K A.d_Giver_own_for ["self", "ties", "i"] []
  Me_Giver_counted_in : Meth K A.c_Giver "counted_in" A.a_Giver_counted_in
  F_Giver_counted_in : Fun K "counted_in" "Giver.counted_in" s_Giver_counted_in A.a_Giver_counted_in A.d_Giver_counted_in
  b_Giver_counted_in : Binds K A.d_Giver_counted_in ["self", "ties", "i"] []
  Me_Giver_put : Meth K A.c_Giver "put" A.a_Giver_put
  F_Giver_put : Fun K "put" "Giver.put" s_Giver_put A.a_Giver_put A.d_Giver_put
  b_Giver_put : Binds K A.d_Giver_put ["self", "way"] []
  c_MOST_TIES : mg "MOST_TIES" = some (.int 60 (g_tok mg "MOST_TIES"))
  c_MOST_PAIRS : mg "MOST_PAIRS" = some (.int 60 (g_tok mg "MOST_PAIRS"))
  c_MOST_PLACES : mg "MOST_PLACES" = some (.int 60 (g_tok mg "MOST_PLACES"))
  c_MOST_WAYS : mg "MOST_WAYS" = some (.int 40 (g_tok mg "MOST_WAYS"))
  z_ValueError : mg "ValueError" = none
  z_bool : mg "bool" = none
  z_int : mg "int" = none
  z_isinstance : mg "isinstance" = none
  z_len : mg "len" = none
  z_list : mg "list" = none
  z_max : mg "max" = none
  z_min : mg "min" = none
  z_range : mg "range" = none
  z_sorted : mg "sorted" = none
  k_TieError : mg "TieError" = some (.ref A.c_TieError)
  x_TieError : ExK K A.c_TieError
  t_TieError : PySem.W.typeIn K (.ref A.c_TieError) = some (.type "type")
  k_NoNet : mg "NoNet" = some (.ref A.c_NoNet)
  x_NoNet : ExK K A.c_NoNet
  t_NoNet : PySem.W.typeIn K (.ref A.c_NoNet) = some (.type "type")
  k_OtherNet : mg "OtherNet" = some (.ref A.c_OtherNet)
  x_OtherNet : ExK K A.c_OtherNet
  t_OtherNet : PySem.W.typeIn K (.ref A.c_OtherNet) = some (.type "type")
  k_NoWay : mg "NoWay" = some (.ref A.c_NoWay)
  x_NoWay : ExK K A.c_NoWay
  t_NoWay : PySem.W.typeIn K (.ref A.c_NoWay) = some (.type "type")
  k_TooMany : mg "TooMany" = some (.ref A.c_TooMany)
  x_TooMany : ExK K A.c_TooMany
  t_TooMany : PySem.W.typeIn K (.ref A.c_TooMany) = some (.type "type")
  k_NoHues : mg "NoHues" = some (.ref A.c_NoHues)
  x_NoHues : ExK K A.c_NoHues
  t_NoHues : PySem.W.typeIn K (.ref A.c_NoHues) = some (.type "type")
  k_NoCrossing : mg "NoCrossing" = some (.ref A.c_NoCrossing)
  x_NoCrossing : ExK K A.c_NoCrossing
  t_NoCrossing : PySem.W.typeIn K (.ref A.c_NoCrossing) = some (.type "type")
  k_NoLot : mg "NoLot" = some (.ref A.c_NoLot)
  x_NoLot : ExK K A.c_NoLot
  t_NoLot : PySem.W.typeIn K (.ref A.c_NoLot) = some (.type "type")
  k_NoPlace : mg "NoPlace" = some (.ref A.c_NoPlace)
  x_NoPlace : ExK K A.c_NoPlace
  t_NoPlace : PySem.W.typeIn K (.ref A.c_NoPlace) = some (.type "type")
  k_NoNumber : mg "NoNumber" = some (.ref A.c_NoNumber)
  x_NoNumber : ExK K A.c_NoNumber
  t_NoNumber : PySem.W.typeIn K (.ref A.c_NoNumber) = some (.type "type")
  k_NoTurning : mg "NoTurning" = some (.ref A.c_NoTurning)
  x_NoTurning : ExK K A.c_NoTurning
  t_NoTurning : PySem.W.typeIn K (.ref A.c_NoTurning) = some (.type "type")
  k_NoTie : mg "NoTie" = some (.ref A.c_NoTie)
  x_NoTie : ExK K A.c_NoTie
  t_NoTie : PySem.W.typeIn K (.ref A.c_NoTie) = some (.type "type")
  k_NoText : mg "NoText" = some (.ref A.c_NoText)
  x_NoText : ExK K A.c_NoText
  t_NoText : PySem.W.typeIn K (.ref A.c_NoText) = some (.type "type")
  k_NoRow : mg "NoRow" = some (.ref A.c_NoRow)
  x_NoRow : ExK K A.c_NoRow
  t_NoRow : PySem.W.typeIn K (.ref A.c_NoRow) = some (.type "type")
  k_NoName : mg "NoName" = some (.ref A.c_NoName)
  x_NoName : ExK K A.c_NoName
  t_NoName : PySem.W.typeIn K (.ref A.c_NoName) = some (.type "type")
  k_NoForm : mg "NoForm" = some (.ref A.c_NoForm)
  x_NoForm : ExK K A.c_NoForm
  t_NoForm : PySem.W.typeIn K (.ref A.c_NoForm) = some (.type "type")
  o_NoWay : OexC K A.c_NoWay
  in_NoWay : PySem.W.findIn K (.ref A.c_NoWay) "__init__" = some (some (.ref A.i_NoWay))
  ti_NoWay : PySem.W.typeIn K (.ref A.i_NoWay) = some (.type "function")
  Fi_NoWay : Fun K "__init__" "NoWay.__init__" s_init_NoWay A.i_NoWay A.di_NoWay
  bi_NoWay : Binds K A.di_NoWay ["self", "at"] []
  nf_NoWay : PySem.W.findIn K (.ref A.c_NoWay) "at" = some none
  o_NoHues : OexC K A.c_NoHues
  in_NoHues : PySem.W.findIn K (.ref A.c_NoHues) "__init__" = some (some (.ref A.i_NoHues))
  ti_NoHues : PySem.W.typeIn K (.ref A.i_NoHues) = some (.type "function")
  Fi_NoHues : Fun K "__init__" "NoHues.__init__" s_init_NoHues A.i_NoHues A.di_NoHues
  bi_NoHues : Binds K A.di_NoHues ["self", "place"] []
  nf_NoHues : PySem.W.findIn K (.ref A.c_NoHues) "place" = some none
  o_NoText : OexC K A.c_NoText
  in_NoText : PySem.W.findIn K (.ref A.c_NoText) "__init__" = some (some (.ref A.i_NoText))
  ti_NoText : PySem.W.typeIn K (.ref A.i_NoText) = some (.type "function")
  Fi_NoText : Fun K "__init__" "NoText.__init__" s_init_NoText A.i_NoText A.di_NoText
  bi_NoText : Binds K A.di_NoText ["self", "row"] []
  nf_NoText : PySem.W.findIn K (.ref A.c_NoText) "row" = some none
  base_ : BaseI K mg A.c_TieError "TieError"
  e_NoCrossing : PySem.W.excIn K A.c_NoCrossing [.type "ValueError", .type "Exception", .type "BaseException", .type "object"] "ValueError.__new__" = true
  p_NoCrossing : PySem.W.keepIn K (.ref A.c_NoCrossing) = true
  u_NoCrossing : PySem.W.subIn K (.ref A.c_NoCrossing) (.ref A.c_TieError) = some true
  q_NoCrossing_NoCrossing : PySem.W.kitOne K (.ref A.c_NoCrossing) (.ref A.c_NoCrossing) = some true
  q_NoCrossing_NoForm : PySem.W.kitOne K (.ref A.c_NoCrossing) (.ref A.c_NoForm) = some false
  q_NoCrossing_NoHues : PySem.W.kitOne K (.ref A.c_NoCrossing) (.ref A.c_NoHues) = some false
  q_NoCrossing_NoLot : PySem.W.kitOne K (.ref A.c_NoCrossing) (.ref A.c_NoLot) = some false
  q_NoCrossing_NoName : PySem.W.kitOne K (.ref A.c_NoCrossing) (.ref A.c_NoName) = some false
  q_NoCrossing_NoNet : PySem.W.kitOne K (.ref A.c_NoCrossing) (.ref A.c_NoNet) = some false
  q_NoCrossing_NoNumber : PySem.W.kitOne K (.ref A.c_NoCrossing) (.ref A.c_NoNumber) = some false
  q_NoCrossing_NoPlace : PySem.W.kitOne K (.ref A.c_NoCrossing) (.ref A.c_NoPlace) = some false
  q_NoCrossing_NoRow : PySem.W.kitOne K (.ref A.c_NoCrossing) (.ref A.c_NoRow) = some false
  q_NoCrossing_NoText : PySem.W.kitOne K (.ref A.c_NoCrossing) (.ref A.c_NoText) = some false
  q_NoCrossing_NoTie : PySem.W.kitOne K (.ref A.c_NoCrossing) (.ref A.c_NoTie) = some false
  q_NoCrossing_NoTurning : PySem.W.kitOne K (.ref A.c_NoCrossing) (.ref A.c_NoTurning) = some false
  q_NoCrossing_NoWay : PySem.W.kitOne K (.ref A.c_NoCrossing) (.ref A.c_NoWay) = some false
  q_NoCrossing_OtherNet : PySem.W.kitOne K (.ref A.c_NoCrossing) (.ref A.c_OtherNet) = some false
  q_NoCrossing_TieError : PySem.W.kitOne K (.ref A.c_NoCrossing) (.ref A.c_TieError) = some true
  q_NoCrossing_TooMany : PySem.W.kitOne K (.ref A.c_NoCrossing) (.ref A.c_TooMany) = some false
  q_NoCrossing_ValueError : PySem.W.kitOne K (.ref A.c_NoCrossing) (.type "ValueError") = some true
  u_NoHues : PySem.W.subIn K (.ref A.c_NoHues) (.ref A.c_TieError) = some true
  q_NoHues_NoCrossing : PySem.W.kitOne K (.ref A.c_NoHues) (.ref A.c_NoCrossing) = some false
  q_NoHues_NoForm : PySem.W.kitOne K (.ref A.c_NoHues) (.ref A.c_NoForm) = some false
  q_NoHues_NoHues : PySem.W.kitOne K (.ref A.c_NoHues) (.ref A.c_NoHues) = some true
  q_NoHues_NoLot : PySem.W.kitOne K (.ref A.c_NoHues) (.ref A.c_NoLot) = some false
  q_NoHues_NoName : PySem.W.kitOne K (.ref A.c_NoHues) (.ref A.c_NoName) = some false
  q_NoHues_NoNet : PySem.W.kitOne K (.ref A.c_NoHues) (.ref A.c_NoNet) = some false
  q_NoHues_NoNumber : PySem.W.kitOne K (.ref A.c_NoHues) (.ref A.c_NoNumber) = some false
  q_NoHues_NoPlace : PySem.W.kitOne K (.ref A.c_NoHues) (.ref A.c_NoPlace) = some false
  q_NoHues_NoRow : PySem.W.kitOne K (.ref A.c_NoHues) (.ref A.c_NoRow) = some false
  q_NoHues_NoText : PySem.W.kitOne K (.ref A.c_NoHues) (.ref A.c_NoText) = some false
  q_NoHues_NoTie : PySem.W.kitOne K (.ref A.c_NoHues) (.ref A.c_NoTie) = some false
  q_NoHues_NoTurning : PySem.W.kitOne K (.ref A.c_NoHues) (.ref A.c_NoTurning) = some false
  q_NoHues_NoWay : PySem.W.kitOne K (.ref A.c_NoHues) (.ref A.c_NoWay) = some false
  q_NoHues_OtherNet : PySem.W.kitOne K (.ref A.c_NoHues) (.ref A.c_OtherNet) = some false
  q_NoHues_TieError : PySem.W.kitOne K (.ref A.c_NoHues) (.ref A.c_TieError) = some true
  q_NoHues_TooMany : PySem.W.kitOne K (.ref A.c_NoHues) (.ref A.c_TooMany) = some false
  q_NoHues_ValueError : PySem.W.kitOne K (.ref A.c_NoHues) (.type "ValueError") = some true
  e_NoLot : PySem.W.excIn K A.c_NoLot [.type "ValueError", .type "Exception", .type "BaseException", .type "object"] "ValueError.__new__" = true
  p_NoLot : PySem.W.keepIn K (.ref A.c_NoLot) = true
  u_NoLot : PySem.W.subIn K (.ref A.c_NoLot) (.ref A.c_TieError) = some true
  q_NoLot_NoCrossing : PySem.W.kitOne K (.ref A.c_NoLot) (.ref A.c_NoCrossing) = some false
  q_NoLot_NoForm : PySem.W.kitOne K (.ref A.c_NoLot) (.ref A.c_NoForm) = some false
  q_NoLot_NoHues : PySem.W.kitOne K (.ref A.c_NoLot) (.ref A.c_NoHues) = some false
  q_NoLot_NoLot : PySem.W.kitOne K (.ref A.c_NoLot) (.ref A.c_NoLot) = some true
  q_NoLot_NoName : PySem.W.kitOne K (.ref A.c_NoLot) (.ref A.c_NoName) = some false
  q_NoLot_NoNet : PySem.W.kitOne K (.ref A.c_NoLot) (.ref A.c_NoNet) = some false
  q_NoLot_NoNumber : PySem.W.kitOne K (.ref A.c_NoLot) (.ref A.c_NoNumber) = some false
  q_NoLot_NoPlace : PySem.W.kitOne K (.ref A.c_NoLot) (.ref A.c_NoPlace) = some false
  q_NoLot_NoRow : PySem.W.kitOne K (.ref A.c_NoLot) (.ref A.c_NoRow) = some false
  q_NoLot_NoText : PySem.W.kitOne K (.ref A.c_NoLot) (.ref A.c_NoText) = some false
  q_NoLot_NoTie : PySem.W.kitOne K (.ref A.c_NoLot) (.ref A.c_NoTie) = some false
  q_NoLot_NoTurning : PySem.W.kitOne K (.ref A.c_NoLot) (.ref A.c_NoTurning) = some false
  q_NoLot_NoWay : PySem.W.kitOne K (.ref A.c_NoLot) (.ref A.c_NoWay) = some false
  q_NoLot_OtherNet : PySem.W.kitOne K (.ref A.c_NoLot) (.ref A.c_OtherNet) = some false
  q_NoLot_TieError : PySem.W.kitOne K (.ref A.c_NoLot) (.ref A.c_TieError) = some true
  q_NoLot_TooMany : PySem.W.kitOne K (.ref A.c_NoLot) (.ref A.c_TooMany) = some false
  q_NoLot_ValueError : PySem.W.kitOne K (.ref A.c_NoLot) (.type "ValueError") = some true
  e_NoNet : PySem.W.excIn K A.c_NoNet [.type "ValueError", .type "Exception", .type "BaseException", .type "object"] "ValueError.__new__" = true
  p_NoNet : PySem.W.keepIn K (.ref A.c_NoNet) = true
  u_NoNet : PySem.W.subIn K (.ref A.c_NoNet) (.ref A.c_TieError) = some true
  q_NoNet_NoCrossing : PySem.W.kitOne K (.ref A.c_NoNet) (.ref A.c_NoCrossing) = some false
  q_NoNet_NoForm : PySem.W.kitOne K (.ref A.c_NoNet) (.ref A.c_NoForm) = some false
  q_NoNet_NoHues : PySem.W.kitOne K (.ref A.c_NoNet) (.ref A.c_NoHues) = some false
  q_NoNet_NoLot : PySem.W.kitOne K (.ref A.c_NoNet) (.ref A.c_NoLot) = some false
  q_NoNet_NoName : PySem.W.kitOne K (.ref A.c_NoNet) (.ref A.c_NoName) = some false
  q_NoNet_NoNet : PySem.W.kitOne K (.ref A.c_NoNet) (.ref A.c_NoNet) = some true
  q_NoNet_NoNumber : PySem.W.kitOne K (.ref A.c_NoNet) (.ref A.c_NoNumber) = some false
  q_NoNet_NoPlace : PySem.W.kitOne K (.ref A.c_NoNet) (.ref A.c_NoPlace) = some false
  q_NoNet_NoRow : PySem.W.kitOne K (.ref A.c_NoNet) (.ref A.c_NoRow) = some false
  q_NoNet_NoText : PySem.W.kitOne K (.ref A.c_NoNet) (.ref A.c_NoText) = some false
  q_NoNet_NoTie : PySem.W.kitOne K (.ref A.c_NoNet) (.ref A.c_NoTie) = some false
  q_NoNet_NoTurning : PySem.W.kitOne K (.ref A.c_NoNet) (.ref A.c_NoTurning) = some false
  q_NoNet_NoWay : PySem.W.kitOne K (.ref A.c_NoNet) (.ref A.c_NoWay) = some false
  q_NoNet_OtherNet : PySem.W.kitOne K (.ref A.c_NoNet) (.ref A.c_OtherNet) = some false
  q_NoNet_TieError : PySem.W.kitOne K (.ref A.c_NoNet) (.ref A.c_TieError) = some true
  q_NoNet_TooMany : PySem.W.kitOne K (.ref A.c_NoNet) (.ref A.c_TooMany) = some false
  q_NoNet_ValueError : PySem.W.kitOne K (.ref A.c_NoNet) (.type "ValueError") = some true
  e_NoPlace : PySem.W.excIn K A.c_NoPlace [.type "ValueError", .type "Exception", .type "BaseException", .type "object"] "ValueError.__new__" = true
  p_NoPlace : PySem.W.keepIn K (.ref A.c_NoPlace) = true
  u_NoPlace : PySem.W.subIn K (.ref A.c_NoPlace) (.ref A.c_TieError) = some true
  q_NoPlace_NoCrossing : PySem.W.kitOne K (.ref A.c_NoPlace) (.ref A.c_NoCrossing) = some false
  q_NoPlace_NoForm : PySem.W.kitOne K (.ref A.c_NoPlace) (.ref A.c_NoForm) = some false
  q_NoPlace_NoHues : PySem.W.kitOne K (.ref A.c_NoPlace) (.ref A.c_NoHues) = some false
  q_NoPlace_NoLot : PySem.W.kitOne K (.ref A.c_NoPlace) (.ref A.c_NoLot) = some false
  q_NoPlace_NoName : PySem.W.kitOne K (.ref A.c_NoPlace) (.ref A.c_NoName) = some false
  q_NoPlace_NoNet : PySem.W.kitOne K (.ref A.c_NoPlace) (.ref A.c_NoNet) = some false
  q_NoPlace_NoNumber : PySem.W.kitOne K (.ref A.c_NoPlace) (.ref A.c_NoNumber) = some false
  q_NoPlace_NoPlace : PySem.W.kitOne K (.ref A.c_NoPlace) (.ref A.c_NoPlace) = some true
  q_NoPlace_NoRow : PySem.W.kitOne K (.ref A.c_NoPlace) (.ref A.c_NoRow) = some false
  q_NoPlace_NoText : PySem.W.kitOne K (.ref A.c_NoPlace) (.ref A.c_NoText) = some false
  q_NoPlace_NoTie : PySem.W.kitOne K (.ref A.c_NoPlace) (.ref A.c_NoTie) = some false
  q_NoPlace_NoTurning : PySem.W.kitOne K (.ref A.c_NoPlace) (.ref A.c_NoTurning) = some false
  q_NoPlace_NoWay : PySem.W.kitOne K (.ref A.c_NoPlace) (.ref A.c_NoWay) = some false
  q_NoPlace_OtherNet : PySem.W.kitOne K (.ref A.c_NoPlace) (.ref A.c_OtherNet) = some false
  q_NoPlace_TieError : PySem.W.kitOne K (.ref A.c_NoPlace) (.ref A.c_TieError) = some true
  q_NoPlace_TooMany : PySem.W.kitOne K (.ref A.c_NoPlace) (.ref A.c_TooMany) = some false
  q_NoPlace_ValueError : PySem.W.kitOne K (.ref A.c_NoPlace) (.type "ValueError") = some true
  u_NoText : PySem.W.subIn K (.ref A.c_NoText) (.ref A.c_TieError) = some true
  q_NoText_NoCrossing : PySem.W.kitOne K (.ref A.c_NoText) (.ref A.c_NoCrossing) = some false
  q_NoText_NoForm : PySem.W.kitOne K (.ref A.c_NoText) (.ref A.c_NoForm) = some false
  q_NoText_NoHues : PySem.W.kitOne K (.ref A.c_NoText) (.ref A.c_NoHues) = some false
  q_NoText_NoLot : PySem.W.kitOne K (.ref A.c_NoText) (.ref A.c_NoLot) = some false
  q_NoText_NoName : PySem.W.kitOne K (.ref A.c_NoText) (.ref A.c_NoName) = some false
  q_NoText_NoNet : PySem.W.kitOne K (.ref A.c_NoText) (.ref A.c_NoNet) = some false
  q_NoText_NoNumber : PySem.W.kitOne K (.ref A.c_NoText) (.ref A.c_NoNumber) = some false
  q_NoText_NoPlace : PySem.W.kitOne K (.ref A.c_NoText) (.ref A.c_NoPlace) = some false
  q_NoText_NoRow : PySem.W.kitOne K (.ref A.c_NoText) (.ref A.c_NoRow) = some false
  q_NoText_NoText : PySem.W.kitOne K (.ref A.c_NoText) (.ref A.c_NoText) = some true
  q_NoText_NoTie : PySem.W.kitOne K (.ref A.c_NoText) (.ref A.c_NoTie) = some false
  q_NoText_NoTurning : PySem.W.kitOne K (.ref A.c_NoText) (.ref A.c_NoTurning) = some false
  q_NoText_NoWay : PySem.W.kitOne K (.ref A.c_NoText) (.ref A.c_NoWay) = some false
  q_NoText_OtherNet : PySem.W.kitOne K (.ref A.c_NoText) (.ref A.c_OtherNet) = some false
  q_NoText_TieError : PySem.W.kitOne K (.ref A.c_NoText) (.ref A.c_TieError) = some true
  q_NoText_TooMany : PySem.W.kitOne K (.ref A.c_NoText) (.ref A.c_TooMany) = some false
  q_NoText_ValueError : PySem.W.kitOne K (.ref A.c_NoText) (.type "ValueError") = some true
  u_NoWay : PySem.W.subIn K (.ref A.c_NoWay) (.ref A.c_TieError) = some true
  q_NoWay_NoCrossing : PySem.W.kitOne K (.ref A.c_NoWay) (.ref A.c_NoCrossing) = some false
  q_NoWay_NoForm : PySem.W.kitOne K (.ref A.c_NoWay) (.ref A.c_NoForm) = some false
  q_NoWay_NoHues : PySem.W.kitOne K (.ref A.c_NoWay) (.ref A.c_NoHues) = some false
  q_NoWay_NoLot : PySem.W.kitOne K (.ref A.c_NoWay) (.ref A.c_NoLot) = some false
  q_NoWay_NoName : PySem.W.kitOne K (.ref A.c_NoWay) (.ref A.c_NoName) = some false
  q_NoWay_NoNet : PySem.W.kitOne K (.ref A.c_NoWay) (.ref A.c_NoNet) = some false
  q_NoWay_NoNumber : PySem.W.kitOne K (.ref A.c_NoWay) (.ref A.c_NoNumber) = some false
  q_NoWay_NoPlace : PySem.W.kitOne K (.ref A.c_NoWay) (.ref A.c_NoPlace) = some false
  q_NoWay_NoRow : PySem.W.kitOne K (.ref A.c_NoWay) (.ref A.c_NoRow) = some false
  q_NoWay_NoText : PySem.W.kitOne K (.ref A.c_NoWay) (.ref A.c_NoText) = some false
  q_NoWay_NoTie : PySem.W.kitOne K (.ref A.c_NoWay) (.ref A.c_NoTie) = some false
  q_NoWay_NoTurning : PySem.W.kitOne K (.ref A.c_NoWay) (.ref A.c_NoTurning) = some false
  q_NoWay_NoWay : PySem.W.kitOne K (.ref A.c_NoWay) (.ref A.c_NoWay) = some true
  q_NoWay_OtherNet : PySem.W.kitOne K (.ref A.c_NoWay) (.ref A.c_OtherNet) = some false
  q_NoWay_TieError : PySem.W.kitOne K (.ref A.c_NoWay) (.ref A.c_TieError) = some true
  q_NoWay_TooMany : PySem.W.kitOne K (.ref A.c_NoWay) (.ref A.c_TooMany) = some false
  q_NoWay_ValueError : PySem.W.kitOne K (.ref A.c_NoWay) (.type "ValueError") = some true
  e_OtherNet : PySem.W.excIn K A.c_OtherNet [.type "ValueError", .type "Exception", .type "BaseException", .type "object"] "ValueError.__new__" = true
  p_OtherNet : PySem.W.keepIn K (.ref A.c_OtherNet) = true
  u_OtherNet : PySem.W.subIn K (.ref A.c_OtherNet) (.ref A.c_TieError) = some true
  q_OtherNet_NoCrossing : PySem.W.kitOne K (.ref A.c_OtherNet) (.ref A.c_NoCrossing) = some false
  q_OtherNet_NoForm : PySem.W.kitOne K (.ref A.c_OtherNet) (.ref A.c_NoForm) = some false
  q_OtherNet_NoHues : PySem.W.kitOne K (.ref A.c_OtherNet) (.ref A.c_NoHues) = some false
  q_OtherNet_NoLot : PySem.W.kitOne K (.ref A.c_OtherNet) (.ref A.c_NoLot) = some false
  q_OtherNet_NoName : PySem.W.kitOne K (.ref A.c_OtherNet) (.ref A.c_NoName) = some false
  q_OtherNet_NoNet : PySem.W.kitOne K (.ref A.c_OtherNet) (.ref A.c_NoNet) = some false
  q_OtherNet_NoNumber : PySem.W.kitOne K (.ref A.c_OtherNet) (.ref A.c_NoNumber) = some false
  q_OtherNet_NoPlace : PySem.W.kitOne K (.ref A.c_OtherNet) (.ref A.c_NoPlace) = some false
  q_OtherNet_NoRow : PySem.W.kitOne K (.ref A.c_OtherNet) (.ref A.c_NoRow) = some false
  q_OtherNet_NoText : PySem.W.kitOne K (.ref A.c_OtherNet) (.ref A.c_NoText) = some false
  q_OtherNet_NoTie : PySem.W.kitOne K (.ref A.c_OtherNet) (.ref A.c_NoTie) = some false
  q_OtherNet_NoTurning : PySem.W.kitOne K (.ref A.c_OtherNet) (.ref A.c_NoTurning) = some false
  q_OtherNet_NoWay : PySem.W.kitOne K (.ref A.c_OtherNet) (.ref A.c_NoWay) = some false
  q_OtherNet_OtherNet : PySem.W.kitOne K (.ref A.c_OtherNet) (.ref A.c_OtherNet) = some true
  q_OtherNet_TieError : PySem.W.kitOne K (.ref A.c_OtherNet) (.ref A.c_TieError) = some true
  q_OtherNet_TooMany : PySem.W.kitOne K (.ref A.c_OtherNet) (.ref A.c_TooMany) = some false
  q_OtherNet_ValueError : PySem.W.kitOne K (.ref A.c_OtherNet) (.type "ValueError") = some true
  e_TooMany : PySem.W.excIn K A.c_TooMany [.type "ValueError", .type "Exception", .type "BaseException", .type "object"] "ValueError.__new__" = true
  p_TooMany : PySem.W.keepIn K (.ref A.c_TooMany) = true
  u_TooMany : PySem.W.subIn K (.ref A.c_TooMany) (.ref A.c_TieError) = some true
  q_TooMany_NoCrossing : PySem.W.kitOne K (.ref A.c_TooMany) (.ref A.c_NoCrossing) = some false
  q_TooMany_NoForm : PySem.W.kitOne K (.ref A.c_TooMany) (.ref A.c_NoForm) = some false
  q_TooMany_NoHues : PySem.W.kitOne K (.ref A.c_TooMany) (.ref A.c_NoHues) = some false
  q_TooMany_NoLot : PySem.W.kitOne K (.ref A.c_TooMany) (.ref A.c_NoLot) = some false
  q_TooMany_NoName : PySem.W.kitOne K (.ref A.c_TooMany) (.ref A.c_NoName) = some false
  q_TooMany_NoNet : PySem.W.kitOne K (.ref A.c_TooMany) (.ref A.c_NoNet) = some false
  q_TooMany_NoNumber : PySem.W.kitOne K (.ref A.c_TooMany) (.ref A.c_NoNumber) = some false
  q_TooMany_NoPlace : PySem.W.kitOne K (.ref A.c_TooMany) (.ref A.c_NoPlace) = some false
  q_TooMany_NoRow : PySem.W.kitOne K (.ref A.c_TooMany) (.ref A.c_NoRow) = some false
  q_TooMany_NoText : PySem.W.kitOne K (.ref A.c_TooMany) (.ref A.c_NoText) = some false
  q_TooMany_NoTie : PySem.W.kitOne K (.ref A.c_TooMany) (.ref A.c_NoTie) = some false
  q_TooMany_NoTurning : PySem.W.kitOne K (.ref A.c_TooMany) (.ref A.c_NoTurning) = some false
  q_TooMany_NoWay : PySem.W.kitOne K (.ref A.c_TooMany) (.ref A.c_NoWay) = some false
  q_TooMany_OtherNet : PySem.W.kitOne K (.ref A.c_TooMany) (.ref A.c_OtherNet) = some false
  q_TooMany_TieError : PySem.W.kitOne K (.ref A.c_TooMany) (.ref A.c_TieError) = some true
  q_TooMany_TooMany : PySem.W.kitOne K (.ref A.c_TooMany) (.ref A.c_TooMany) = some true
  q_TooMany_ValueError : PySem.W.kitOne K (.ref A.c_TooMany) (.type "ValueError") = some true
/-! ### nets -/
inductive Net where
  | line (n : Int)
  | ring (n : Int)
  | tree (ps : List Int)
def Net.kind : Net → Str
  | .line _ => Str.ofString "line"
  | .ring _ => Str.ofString "ring"
  | .tree _ => Str.ofString "tree"
def Net.size : Net → PyData
  | .line n => .int n
  | .ring n => .int n
  | .tree ps => dInts ps
abbrev Net.d (N : Net) : PyData := .tuple [.str N.kind, N.size]
def TreeOk (ps : List Int) : Prop := 1 ≤ ps.length ∧ ps.length < 60 ∧ ∀ k : Nat, k < ps.length → 0 ≤ ps.getD k 0 ∧ ps.getD k 0 ≤ k
def Net.ok : Net → Prop
  | .line n => 2 ≤ n ∧ n ≤ 60
  | .ring n => 3 ≤ n ∧ n ≤ 60
  | .tree ps => TreeOk ps
def Net.places : Net → Int
  | .line n => n
  | .ring n => n
  | .tree ps => ps.length + 1
theorem net_str {s t : Str} (h : decide (V.str s = V.str t) = true) : s = t := V.str.inj (of_decide_eq_true h)
/-- a net's tuple -/
theorem dp_net {K : PySem.W.Frag} {H : Hp} {v : V} {N : Net} (h : Dp K H v N.d) : ∃ a y, v = .ref a ∧ SqT K H a [.str N.kind, y] ∧ Dp K H y N.size := by
  obtain ⟨a, x, y, rfl, hs, hx, hy⟩ := dp_tup2 h
  obtain rfl := dp_str hx
  exact ⟨a, y, rfl, hs, hy⟩
theorem k_eqS {s t : Str} {H : Hp} {Q : VK} (h : Q (.bl (decide (s = t))) H) : rEq (.str s) (.str t) H Q := ⟨rfl, by
  have e : decide (V.str s = V.str t) = decide (s = t) := by
    by_cases c : s = t
    · rw [decide_eq_true c, decide_eq_true (by rw [c])]
    · rw [decide_eq_false c, decide_eq_false (fun z => c (V.str.inj z))]
  rw [e]; exact h⟩
theorem k_neS {s t : Str} {H : Hp} {Q : VK} (h : Q (.bl (!decide (s = t))) H) : rNe (.str s) (.str t) H Q := ⟨rfl, by
  have e : decide (V.str s = V.str t) = decide (s = t) := by
    by_cases c : s = t
    · rw [decide_eq_true c, decide_eq_true (by rw [c])]
    · rw [decide_eq_false c, decide_eq_false (fun z => c (V.str.inj z))]
  rw [e]; exact h⟩
theorem s_lt : decide (Str.ofString "line" = Str.ofString "tree") = false := by decide +kernel
theorem s_rt : decide (Str.ofString "ring" = Str.ofString "tree") = false := by decide +kernel
theorem s_lr : decide (Str.ofString "line" = Str.ofString "ring") = false := by decide +kernel
theorem s_rl : decide (Str.ofString "ring" = Str.ofString "line") = false := by decide +kernel
theorem s_tl : decide (Str.ofString "tree" = Str.ofString "line") = false := by decide +kernel
theorem s_tr : decide (Str.ofString "tree" = Str.ofString "ring") = false := by decide +kernel
theorem s_same (s : Str) : decide (s = s) = true := decide_eq_true rfl
/-- how far t lies up from a on a ring of n -/
def up (n a t : Int) : Int := if a ≤ t then t - a else t - a + n
/-- x lies in the part of the tree that hangs by k -/
def below (ps : List Int) (k : Nat) : Nat → Bool
  | 0 => decide (k = 0)
  | x + 1 => decide (k = x + 1) || (decide (k < x + 1) && if h : (ps.getD x 0).toNat < x + 1 then below ps k (ps.getD x 0).toNat else false)
termination_by x => x
decreasing_by exact h
def OnTie : Net → Int → Int → Int → Prop
  | .line _, a, b, t => min a b ≤ t ∧ t < max a b
  | .ring n, a, b, t => 0 ≤ t ∧ t < n ∧ up n a t < up n a b
  | .tree ps, a, b, t => 0 ≤ t ∧ t < ps.length ∧ below ps (t.toNat + 1) a.toNat ≠ below ps (t.toNat + 1) b.toNat
def Net.far : Net → Int → Int → List Int → Prop
  | .line _, a, b, ns => (ns.length : Int) = max a b - min a b
  | .ring n, a, b, ns => (ns.length : Int) = up n a b
  | .tree _, _, _, ns => ns.length < 120
def isWay (N : Net) (a b : Int) : Prop := a ≠ b ∧ 0 ≤ a ∧ 0 ≤ b ∧ a < N.places ∧ b < N.places
instance (N : Net) (a b : Int) : Decidable (isWay N a b) := by unfold isWay; infer_instance
structure TiesOf (N : Net) (a b : Int) (ns : List Int) : Prop where
  srt : ns.Pairwise (· < ·)
  mem : ∀ t, t ∈ ns ↔ OnTie N a b t
  far : N.far a b ns
/-! ### things that may be nets -/
structure ANet where
  kd : Str
  sz : Int ⊕ List Int
def szd : Int ⊕ List Int → PyData
  | .inl n => .int n
  | .inr ps => dInts ps
abbrev ANet.d (M : ANet) : PyData := .tuple [.str M.kd, szd M.sz]
def Net.a : Net → ANet
  | .line n => ⟨Str.ofString "line", .inl n⟩
  | .ring n => ⟨Str.ofString "ring", .inl n⟩
  | .tree ps => ⟨Str.ofString "tree", .inr ps⟩
theorem a_d (N : Net) : N.a.d = N.d := by cases N <;> rfl
theorem a_kd (N : Net) : N.a.kd = N.kind := by cases N <;> rfl
def ANet.ok (M : ANet) : Prop := ∃ N : Net, M = N.a ∧ N.ok
def ANet.lens (M : ANet) : Prop := ∀ ps, M.sz = .inr ps → ps.length ≤ 10000
theorem lens_l {k : Str} {n : Int} : ANet.lens ⟨k, .inl n⟩ := fun ps h => by cases h
theorem lens_r {k : Str} {ps : List Int} (h : ps.length ≤ 10000) : ANet.lens ⟨k, .inr ps⟩ := fun qs e => by cases e; exact h
theorem a_lens {N : Net} (ok : N.ok) : N.a.lens := by
  cases N with
  | line n => exact lens_l
  | ring n => exact lens_l
  | tree ps => exact lens_r (by have := ok.2.1; omega)
theorem sne {s t : Str} (h : decide (s = t) = false) : s ≠ t := of_decide_eq_false h
theorem aok_tl {n : Int} : ¬ ANet.ok ⟨Str.ofString "tree", .inl n⟩ := fun ⟨N, e, _⟩ => by
  cases N with
  | line m => exact sne s_tl (congrArg ANet.kd e)
  | ring m => exact sne s_tr (congrArg ANet.kd e)
  | tree ps => cases congrArg ANet.sz e
theorem aok_t {ps : List Int} : ANet.ok ⟨Str.ofString "tree", .inr ps⟩ ↔ TreeOk ps := ⟨fun ⟨N, e, h⟩ => by
  cases N with
  | line m => exact absurd (congrArg ANet.kd e) (sne s_tl)
  | ring m => exact absurd (congrArg ANet.kd e) (sne s_tr)
  | tree qs => cases congrArg ANet.sz e; exact h, fun h => ⟨.tree ps, rfl, h⟩⟩
theorem aok_l {n : Int} : ANet.ok ⟨Str.ofString "line", .inl n⟩ ↔ 2 ≤ n ∧ n ≤ 60 := ⟨fun ⟨N, e, h⟩ => by
  cases N with
  | line m => cases congrArg ANet.sz e; exact h
  | ring m => exact absurd (congrArg ANet.kd e) (sne s_lr)
  | tree qs => exact absurd (congrArg ANet.kd e) (sne s_lt), fun h => ⟨.line n, rfl, h⟩⟩
theorem aok_lr {ps : List Int} : ¬ ANet.ok ⟨Str.ofString "line", .inr ps⟩ := fun ⟨N, e, _⟩ => by
  cases N with
  | line m => cases congrArg ANet.sz e
  | ring m => cases congrArg ANet.sz e
  | tree qs => exact sne s_lt (congrArg ANet.kd e)
theorem aok_r {n : Int} : ANet.ok ⟨Str.ofString "ring", .inl n⟩ ↔ 3 ≤ n ∧ n ≤ 60 := ⟨fun ⟨N, e, h⟩ => by
  cases N with
  | line m => exact absurd (congrArg ANet.kd e) (sne s_rl)
  | ring m => cases congrArg ANet.sz e; exact h
  | tree qs => exact absurd (congrArg ANet.kd e) (sne s_rt), fun h => ⟨.ring n, rfl, h⟩⟩
theorem aok_rr {ps : List Int} : ¬ ANet.ok ⟨Str.ofString "ring", .inr ps⟩ := fun ⟨N, e, _⟩ => by
  cases N with
  | line m => cases congrArg ANet.sz e
  | ring m => cases congrArg ANet.sz e
  | tree qs => exact sne s_rt (congrArg ANet.kd e)
theorem aok_o {k : Str} {z : Int ⊕ List Int} (h1 : k ≠ Str.ofString "line") (h2 : k ≠ Str.ofString "ring") (h3 : k ≠ Str.ofString "tree") : ¬ ANet.ok ⟨k, z⟩ := fun ⟨N, e, _⟩ => by
  have e := congrArg ANet.kd e
  cases N with
  | line m => exact h1 e
  | ring m => exact h2 e
  | tree qs => exact h3 e
theorem dp_anet {K : PySem.W.Frag} {H : Hp} {v : V} {M : ANet} (h : Dp K H v M.d) : ∃ a y, v = .ref a ∧ SqT K H a [.str M.kd, y] ∧ Dp K H y (szd M.sz) := by
  obtain ⟨a, x, y, rfl, hs, hx, hy⟩ := dp_tup2 h
  obtain rfl := dp_str hx
  exact ⟨a, y, rfl, hs, hy⟩

variable {P : Program} {w : World} {K : PySem.W.Frag} {mg : Str → Option Value} {base : Heap} {A : Ad}
def pr_is_tree (K : PySem.W.Frag) (v0 : V) (H : Hp) (Q : VK) (_ : XK) : Prop := ∃ ps, Dp K H v0 (dInts ps) ∧ ps.length ≤ 10000 ∧ ∀ b, (b = true ↔ TreeOk ps) → Q (.bl b) H
def t_is_tree (K : PySem.W.Frag) : TS :=
  (tSeq (tIfS (tOr (tTest (tOp xLt (tCB (rLenX K) (tCons (tVar 0) tNil)) (tC (.int 1)))) (tTest (tOp xGe (tCB (rLenX K) (tCons (tVar 0) tNil)) (tC (.int 60))))) (tRet (tC (.bl false))) tNext)
    (tSeq (tFor (iRng1 (tCons (tCB (rLenX K) (tCons (tVar 0) tNil)) tNil)) (gName 1)
      (tIfS (tOr (tTest (tOp xLt (tOp (rIxL K) (tVar 0) (tVar 1)) (tC (.int 0)))) (tTest (tOp xGt (tOp (rIxL K) (tVar 0) (tVar 1)) (tVar 1)))) (tRet (tC (.bl false))) tNext))
    (tRet (tC (.bl true)))))
theorem pure_is_tree {v0 : V} {H : Hp} {Q : VK} {E : XK} (h : pr_is_tree K v0 H Q E) : t_is_tree K ⟨fun _ H' => Q .non H', Q, fun _ _ => False, fun _ _ => False⟩ [some v0, none] H := by
  obtain ⟨ps, hp, hz, q⟩ := h
  obtain ⟨a, rfl, ha⟩ := dp_ints hp
  unfold t_is_tree
  wtm_at "s"
  refine k_it (fun c1 => ?_) (fun c1 => ?_)
  · wtm_at "s"
    exact q _ (ff_iff fun z => absurd z.1 (by omega))
  wtm_at "s"
  refine k_it (fun c2 => ?_) (fun c2 => ?_)
  · wtm_at "s"
    exact q _ (ff_iff fun z => absurd z.2.1 (by omega))
  wtm_at "s"
  refine forR (fun i σ' H' => H' = H ∧ (∃ k, σ' = [some (.ref a), k]) ∧ ∀ k : Nat, k < i → 0 ≤ ps.getD k 0 ∧ ps.getD k 0 ≤ k) ⟨rfl, ⟨none, rfl⟩, fun k hk => absurd hk (by omega)⟩ ?_ ?_
  · rintro i σ' H' hi ⟨rfl, ⟨k, rfl⟩, hk⟩
    wtm_at "s"
    refine k_ixI ha (by omega) (by omega) ?_
    wtm_at "s"
    rw [show (0 + (i : Int)).toNat = i by omega]
    refine k_it (fun c3 => ?_) (fun c3 => ?_)
    · wtm_at "s"
      exact q _ (ff_iff fun z => absurd (z.2.2 i (by omega)).1 (by omega))
    wtm_at "s"
    refine k_ixI ha (by omega) (by omega) ?_
    wtm_at "s"
    rw [show (0 + (i : Int)).toNat = i by omega]
    refine k_it (fun c4 => ?_) (fun c4 => ?_)
    · wtm_at "s"
      exact q _ (ff_iff fun z => absurd (z.2.2 i (by omega)).2 (by omega))
    wtm_at "s"
    refine ⟨rfl, ⟨_, rfl⟩, fun k hk' => ?_⟩
    by_cases e : k = i
    · subst e; omega
    · exact hk k (by omega)
  · rintro σ' H' ⟨rfl, ⟨k, rfl⟩, hk⟩
    wtm_at "s"
    exact q _ (tt_iff ⟨by omega, by omega, fun k h => hk k (by omega)⟩)
abbrev sp_is_tree (K : PySem.W.Frag) : Sp := fun vs H Q E => ∃ v0, vs = [v0] ∧ pr_is_tree K v0 H Q E
theorem ok_is_tree (T : Txt K mg A) : FnOk P w K mg base CX0 1 A.a_is_tree A.d_is_tree ["parents"] (sp_is_tree K) := by
  refine T.F_is_tree.ok sc_is_tree (fun vs H Q E h => by obtain ⟨v0, rfl, _⟩ := h; rfl) (fun cdv A0 outer s H vs Q E hr h => ?_)
  obtain ⟨v0, rfl, h⟩ := h
  exact ⟨t_is_tree K, (pss_cons (ps_if (PW.pt (pw_or (pt_cmpR op_lt (pe_callB q_len (by rfl) T.z_len (by decide +kernel) (pa_cons (pv 0) pa_nil)) pe_int (nomark _)) (pw_or1 (pt_cmpR op_ge (pe_callB q_len (by rfl) T.z_len (by decide +kernel) (pa_cons (pv 0) pa_nil)) (pe_glob (v := .int 60) (by rfl) T.c_MOST_PLACES ⟨_, rfl⟩) (nomark _))))) (pss_one (ps_ret pe_bl)) pss_nil)
      (pss_cons (ps_for PassesOwn.never rfl (pi_range1 (by rfl) T.z_range (pa_cons (pe_callB q_len (by rfl) T.z_len (by decide +kernel) (pa_cons (pv 0) pa_nil)) pa_nil)) (pg_name (i := 1) sc_is_tree.nd rfl (Or.inl rfl))
      (pss_one (ps_if (PW.pt (pw_or (pt_cmpR op_lt (pe_ix ix_list (pv 0) (pv 1) (fun _ _ => rfl)) pe_int (nomark _)) (pw_or1 (pt_cmpR op_gt (pe_ix ix_list (pv 0) (pv 1) (fun _ _ => rfl)) (pv 1) (nomark _))))) (pss_one (ps_ret pe_bl)) pss_nil)))
      (pss_one (ps_ret pe_bl)))), pure_is_tree h⟩
def pr_look_net (K : PySem.W.Frag) (A : Ad) (v0 : V) (H : Hp) (Q : VK) (E : XK) : Prop := ∃ M : ANet, Dp K H v0 M.d ∧ M.lens ∧ ((¬ M.ok ∧ E (.ref A.c_NoNet) none H) ∨ (M.ok ∧ Q .non H))
def t_look_net (K : PySem.W.Frag) (A : Ad) (E : XK) : TS :=
  (tSeq (tAsg (tVar 0) (gTup K 2 (gCons (gName 1) (gCons (gName 2) gNil))))
    (tSeq (tIfS (tTest (tOp rEq (tVar 1) (tC (.str (Str.ofString "tree"))))) (tAsg (tAndV (tCB (rIsi K) (tCons (tVar 2) (tCons (tC (.ty "list")) tNil))) (tCall (sp_is_tree K) [] E0 (tCons (tVar 2) tNil))) (gName 3)) (tIfS (tOr (tTest (tOp rEq (tVar 1) (tC (.str (Str.ofString "line"))))) (tTest (tOp rEq (tVar 1) (tC (.str (Str.ofString "ring")))))) (tAsg (tAndV (tNotV (tCB (rIsi K) (tCons (tVar 2) (tCons (tC (.ty "list")) tNil)))) (tAndV (tOp xGe (tVar 2) (tOp xAdd (tC (.int 2)) (tCB rIntOf (tCons (tOp rEq (tVar 1) (tC (.str (Str.ofString "ring")))) tNil)))) (tOp xLe (tVar 2) (tC (.int 60))))) (gName 3)) (tAsg (tC (.bl false)) (gName 3))))
    (tIfS (tNot (tB (tVar 3))) (tRaiseP A.c_NoNet E) tNext)))
theorem pure_look_net {v0 : V} {H : Hp} {Q : VK} {E : XK} (h : pr_look_net K A v0 H Q E) : t_look_net K A E ⟨fun _ H' => Q .non H', Q, fun _ _ => False, fun _ _ => False⟩ [some v0, none, none, none] H := by
  obtain ⟨⟨kd, z⟩, hd, hlen, h⟩ := h
  have qq : ANet.ok ⟨kd, z⟩ → Q .non H := fun o => by
    rcases h with ⟨h1, _⟩ | ⟨_, h2⟩
    · exact absurd o h1
    · exact h2
  have qe : ¬ ANet.ok ⟨kd, z⟩ → E (.ref A.c_NoNet) none H := fun o => by
    rcases h with ⟨_, h1⟩ | ⟨h2, _⟩
    · exact h1
    · exact absurd h2 o
  clear h
  obtain ⟨a, y, rfl, hs, hy⟩ := dp_anet hd
  unfold t_look_net
  wtm_at "s"
  refine k_eqS ?_
  by_cases c1 : kd = Str.ofString "tree"
  · subst c1
    rw [s_same]
    cases z with
    | inl n =>
      obtain rfl := dp_int hy
      wtm_at "s"
      exact qe aok_tl
    | inr ps =>
      obtain ⟨b, rfl, hb⟩ := dp_ints hy
      wtm_at "s"
      refine ⟨_, rfl, ps, hy, hlen ps rfl, fun r hr => ?_⟩
      cases r with
      | true =>
        wtm_at "s"
        exact qq (aok_t.mpr (hr.mp rfl))
      | false =>
        wtm_at "s"
        exact qe fun o => by have := hr.mpr (aok_t.mp o); cases this
  · rw [decide_eq_false c1]
    wtm_at "s"
    refine k_eqS ?_
    by_cases c2 : kd = Str.ofString "line"
    · subst c2
      rw [s_same]
      cases z with
      | inl n =>
        obtain rfl := dp_int hy
        wtm_at "s"
        refine k_eqS ?_
        rw [s_lr]
        wtm_at "s"
        by_cases c : 2 ≤ n
        · have e1 : decide (2 + (if false = true then 1 else 0) ≤ n) = true := by simp; omega
          rw [e1]
          wtm_at "s"
          by_cases c' : n ≤ 60
          · wtm_at "s"
            exact qq (aok_l.mpr ⟨c, c'⟩)
          · wtm_at "s"
            exact qe fun o => c' (aok_l.mp o).2
        · have e1 : decide (2 + (if false = true then 1 else 0) ≤ n) = false := by simp; omega
          rw [e1]
          wtm_at "s"
          exact qe fun o => c (aok_l.mp o).1
      | inr ps =>
        obtain ⟨b, rfl, hb⟩ := dp_ints hy
        wtm_at "s"
        exact qe aok_lr
    · rw [decide_eq_false c2]
      wtm_at "s"
      refine k_eqS ?_
      by_cases c3 : kd = Str.ofString "ring"
      · subst c3
        rw [s_same]
        cases z with
        | inl n =>
          obtain rfl := dp_int hy
          wtm_at "s"
          refine k_eqS ?_
          rw [s_same]
          wtm_at "s"
          by_cases c : 3 ≤ n
          · have e1 : decide (2 + (if true = true then 1 else 0) ≤ n) = true := by simp; omega
            rw [e1]
            wtm_at "s"
            by_cases c' : n ≤ 60
            · wtm_at "s"
              exact qq (aok_r.mpr ⟨c, c'⟩)
            · wtm_at "s"
              exact qe fun o => c' (aok_r.mp o).2
          · have e1 : decide (2 + (if true = true then 1 else 0) ≤ n) = false := by simp; omega
            rw [e1]
            wtm_at "s"
            exact qe fun o => c (aok_r.mp o).1
        | inr ps =>
          obtain ⟨b, rfl, hb⟩ := dp_ints hy
          wtm_at "s"
          exact qe aok_rr
      · rw [decide_eq_false c3]
        wtm_at "s"
        exact qe (aok_o c2 c3 c1)
abbrev sp_look_net (K : PySem.W.Frag) (A : Ad) : Sp := fun vs H Q E => ∃ v0, vs = [v0] ∧ pr_look_net K A v0 H Q E
theorem ok_look_net (T : Txt K mg A) : FnOk P w K mg base (L2.CX P w) 3 A.a_look_net A.d_look_net ["net"] (sp_look_net K A) := by
  refine T.F_look_net.okX sc_look_net (fun vs H Q E h => by obtain ⟨v0, rfl, _⟩ := h; rfl) (fun cdv A0 outer s H vs Q E hr h => ?_)
  obtain ⟨v0, rfl, h⟩ := h
  exact ⟨t_look_net K A E, (pss_cons (ps_asg (pv 0) (pg_tup (by rfl) (pgs_cons (pg_name (i := 1) sc_look_net.nd rfl (Or.inl rfl)) (pgs_cons (pg_name (i := 2) sc_look_net.nd rfl (Or.inl rfl)) pgs_nil))))
      (pss_cons (ps_if (pt_cmpR op_eq (pv 1) pe_str (nomark _)) (pss_one (ps_set (i := 3) sc_look_net.nd rfl (Or.inl rfl) (pe_and (pe_callB q_isi (by rfl) T.z_isinstance (by decide +kernel) (pa_cons (pv 2) (pa_cons (pe_bltn (v := .ty "list") (by rfl) T.z_list (by decide +kernel) rfl) pa_nil))) (pe_one (pe_call (ok_is_tree T) (hr.mono (by decide)) (by rfl) T.g_is_tree T.F_is_tree.kp T.b_is_tree .nil pass0 (pa_cons (pv 2) pa_nil)))))) (pss_one (ps_if (PW.pt (pw_or (pt_cmpR op_eq (pv 1) pe_str (nomark _)) (pw_or1 (pt_cmpR op_eq (pv 1) pe_str (nomark _))))) (pss_one (ps_set (i := 3) sc_look_net.nd rfl (Or.inl rfl) (pe_and (pe_not (pe_callB q_isi (by rfl) T.z_isinstance (by decide +kernel) (pa_cons (pv 2) (pa_cons (pe_bltn (v := .ty "list") (by rfl) T.z_list (by decide +kernel) rfl) pa_nil)))) (pe_and (pe_cmpR op_ge (pv 2) (pe_op op_add pe_int (pe_callTy q_intB (by rfl) T.z_int (by decide +kernel) (pa_cons (pe_cmpR op_eq (pv 1) pe_str (nomark _)) pa_nil))) (nomark _)) (pe_one (pe_cmpR op_le (pv 2) (pe_glob (v := .int 60) (by rfl) T.c_MOST_PLACES ⟨_, rfl⟩) (nomark _))))))) (pss_one (ps_set (i := 3) sc_look_net.nd rfl (Or.inl rfl) pe_bl)))))
      (pss_one (ps_if (pt_not (pt_val (pv 3))) (pss_one (ps_raise rfl (takes_of rfl rfl rfl rfl) (pmk_own PySem.F.excBase_ValueError T.e_NoNet T.k_NoNet T.p_NoNet (raises_own T.x_NoNet.hs T.t_NoNet) (by rfl)))) pss_nil)))), pure_look_net h⟩
def pr_must_be_kind (K : PySem.W.Frag) (A : Ad) (v0 v1 : V) (H : Hp) (Q : VK) (E : XK) : Prop := ∃ (M : ANet) (k : Str), v1 = .str k ∧ Dp K H v0 M.d ∧ M.lens ∧ ((¬ M.ok ∧ E (.ref A.c_NoNet) none H) ∨ (∃ N : Net, M = N.a ∧ N.ok ∧ N.kind ≠ k ∧ E (.ref A.c_OtherNet) none H) ∨ (∃ N : Net, M = N.a ∧ N.ok ∧ N.kind = k ∧ Q .non H))
def t_must_be_kind (K : PySem.W.Frag) (A : Ad) (E : XK) : TS :=
  (tSeq (tDrop (tCall (sp_look_net K A) [] E (tCons (tVar 0) tNil)))
    (tIfS (tTest (tOp rNe (tOp (rIxT K) (tVar 0) (tC (.int 0))) (tVar 1))) (tRaiseP A.c_OtherNet E) tNext))
theorem pure_must_be_kind {v0 v1 : V} {H : Hp} {Q : VK} {E : XK} (h : pr_must_be_kind K A v0 v1 H Q E) : t_must_be_kind K A E ⟨fun _ H' => Q .non H', Q, fun _ _ => False, fun _ _ => False⟩ [some v0, some v1] H := by
  obtain ⟨M, k, rfl, hd, hlen, h⟩ := h
  obtain ⟨a, y, rfl, hs, hy⟩ := dp_anet hd
  unfold t_must_be_kind
  wtm_at "s"
  rcases h with ⟨hn, hE⟩ | ⟨N, rfl, ok, hk, hE⟩ | ⟨N, rfl, ok, hk, hQ⟩
  · exact ⟨_, rfl, M, hd, hlen, .inl ⟨hn, hE⟩⟩
  · refine ⟨_, rfl, N.a, hd, hlen, .inr ⟨⟨N, rfl, ok⟩, ?_⟩⟩
    wtm_at "s"
    refine k_neS ?_
    rw [a_kd, decide_eq_false hk]
    wtm_at "s"
    exact hE
  · refine ⟨_, rfl, N.a, hd, hlen, .inr ⟨⟨N, rfl, ok⟩, ?_⟩⟩
    wtm_at "s"
    refine k_neS ?_
    rw [a_kd, decide_eq_true hk]
    wtm_at "s"
    exact hQ
abbrev sp_must_be_kind (K : PySem.W.Frag) (A : Ad) : Sp := fun vs H Q E => ∃ v0 v1, vs = [v0, v1] ∧ pr_must_be_kind K A v0 v1 H Q E
theorem ok_must_be_kind (T : Txt K mg A) : FnOk P w K mg base (L2.CX P w) 4 A.a_must_be_kind A.d_must_be_kind ["net", "kind"] (sp_must_be_kind K A) := by
  refine T.F_must_be_kind.okX sc_must_be_kind (fun vs H Q E h => by obtain ⟨v0, v1, rfl, _⟩ := h; rfl) (fun cdv A0 outer s H vs Q E hr h => ?_)
  obtain ⟨v0, v1, rfl, h⟩ := h
  exact ⟨t_must_be_kind K A E, (pss_cons (ps_expr (pe_call (E := E) (ok_look_net T) (hr.mono (by decide)) (by rfl) T.g_look_net T.F_look_net.kp T.b_look_net .nil (passes_call (takes_of rfl rfl rfl rfl) (fun _ _ _ _ h => h)) (pa_cons (pv 0) pa_nil)))
      (pss_one (ps_if (pt_cmpR op_ne (pe_ix ix_tup (pv 0) pe_int (fun _ _ => rfl)) (pv 1) (nomark _)) (pss_one (ps_raise rfl (takes_of rfl rfl rfl rfl) (pmk_own PySem.F.excBase_ValueError T.e_OtherNet T.k_OtherNet T.p_OtherNet (raises_own T.x_OtherNet.hs T.t_OtherNet) (by rfl)))) pss_nil))), pure_must_be_kind h⟩


def pr_places_of (K : PySem.W.Frag) (v0 : V) (H : Hp) (Q : VK) (_ : XK) : Prop := ∃ N : Net, Dp K H v0 N.d ∧ Q (.int N.places) H
def t_places_of (K : PySem.W.Frag) : TS :=
  (tSeq (tIfS (tTest (tOp rEq (tOp (rIxT K) (tVar 0) (tC (.int 0))) (tC (.str (Str.ofString "tree"))))) (tRet (tOp xAdd (tCB (rLenX K) (tCons (tOp (rIxT K) (tVar 0) (tC (.int 1))) tNil)) (tC (.int 1)))) tNext)
    (tRet (tOp (rIxT K) (tVar 0) (tC (.int 1)))))
theorem pure_places_of {v0 : V} {H : Hp} {Q : VK} {E : XK} (h : pr_places_of K v0 H Q E) : t_places_of K ⟨fun _ H' => Q .non H', Q, fun _ _ => False, fun _ _ => False⟩ [some v0] H := by
  obtain ⟨N, hd, q⟩ := h
  obtain ⟨a, y, rfl, hs, hy⟩ := dp_net hd
  unfold t_places_of
  wtm_at "s"
  refine k_eqS ?_
  cases N with
  | line n =>
    obtain rfl := dp_int hy
    rw [show Net.kind (.line n) = Str.ofString "line" from rfl, s_lt]
    wtm_at "s"
    exact q
  | ring n =>
    obtain rfl := dp_int hy
    rw [show Net.kind (.ring n) = Str.ofString "ring" from rfl, s_rt]
    wtm_at "s"
    exact q
  | tree ps =>
    obtain ⟨b, rfl, hb⟩ := dp_ints hy
    rw [show Net.kind (.tree ps) = Str.ofString "tree" from rfl, s_same]
    wtm_at "s"
    exact q
abbrev sp_places_of (K : PySem.W.Frag) : Sp := fun vs H Q E => ∃ v0, vs = [v0] ∧ pr_places_of K v0 H Q E
theorem ok_places_of (T : Txt K mg A) : FnOk P w K mg base CX0 1 A.a_places_of A.d_places_of ["net"] (sp_places_of K) := by
  refine T.F_places_of.ok sc_places_of (fun vs H Q E h => by obtain ⟨v0, rfl, _⟩ := h; rfl) (fun cdv A0 outer s H vs Q E hr h => ?_)
  obtain ⟨v0, rfl, h⟩ := h
  exact ⟨t_places_of K, (pss_cons (ps_if (pt_cmpR op_eq (pe_ix ix_tup (pv 0) pe_int (fun _ _ => rfl)) pe_str (nomark _)) (pss_one (ps_ret (pe_op op_add (pe_callB q_len (by rfl) T.z_len (by decide +kernel) (pa_cons (pe_ix ix_tup (pv 0) pe_int (fun _ _ => rfl)) pa_nil)) pe_int))) pss_nil)
      (pss_one (ps_ret (pe_ix ix_tup (pv 0) pe_int (fun _ _ => rfl))))), pure_places_of h⟩
def pr_is_way (K : PySem.W.Frag) (v0 v1 : V) (H : Hp) (Q : VK) (_ : XK) : Prop := ∃ (N : Net) (a b : Int), Dp K H v0 N.d ∧ Dp K H v1 (dPair (a, b)) ∧ Q (.bl (decide (isWay N a b))) H
def t_is_way (K : PySem.W.Frag) : TS :=
  (tSeq (tAsg (tVar 1) (gTup K 2 (gCons (gName 2) (gCons (gName 3) gNil))))
    (tRet (tAndV (tOp rNe (tVar 2) (tVar 3)) (tAndV (tOp xGe (tCB rMin2 (tCons (tVar 2) (tCons (tVar 3) tNil))) (tC (.int 0))) (tOp xLt (tCB rMax2 (tCons (tVar 2) (tCons (tVar 3) tNil))) (tCall (sp_places_of K) [] E0 (tCons (tVar 0) tNil)))))))
theorem pure_is_way {v0 v1 : V} {H : Hp} {Q : VK} {E : XK} (h : pr_is_way K v0 v1 H Q E) : t_is_way K ⟨fun _ H' => Q .non H', Q, fun _ _ => False, fun _ _ => False⟩ [some v0, some v1, none, none] H := by
  obtain ⟨N, a, b, hd, hw, q⟩ := h
  obtain ⟨p, rfl, hp⟩ := dp_pair hw
  have kk : ∀ r : Bool, (r = true ↔ isWay N a b) → Q (.bl r) H := fun r hr => by
    have : r = decide (isWay N a b) := by
      by_cases c : isWay N a b
      · rw [decide_eq_true c]; exact hr.mpr c
      · rw [decide_eq_false c]
        cases r with
        | false => rfl
        | true => exact absurd (hr.mp rfl) c
    rw [this]; exact q
  unfold t_is_way
  wtm_at "s"
  refine k_itn (fun c1 => ?_) (fun c1 => ?_)
  · wtm_at "s"
    refine k_it (fun c2 => ?_) (fun c2 => ?_)
    · wtm_at "s"
      refine ⟨_, rfl, N, hd, ?_⟩
      wtm_at "s"
      refine kk _ ?_
      simp only [decide_eq_true_eq, isWay]
      constructor
      · intro z
        split at z <;> split at c2 <;> omega
      · intro z
        split <;> omega
    · wtm_at "s"
      refine kk _ (ff_iff fun z => c2 ?_)
      obtain ⟨z1, z2, z3, z4, z5⟩ := z
      split <;> omega
  · wtm_at "s"
    exact kk _ (ff_iff fun z => z.1 c1)
abbrev sp_is_way (K : PySem.W.Frag) : Sp := fun vs H Q E => ∃ v0 v1, vs = [v0, v1] ∧ pr_is_way K v0 v1 H Q E
theorem ok_is_way (T : Txt K mg A) : FnOk P w K mg base CX0 2 A.a_is_way A.d_is_way ["net", "way"] (sp_is_way K) := by
  refine T.F_is_way.ok sc_is_way (fun vs H Q E h => by obtain ⟨v0, v1, rfl, _⟩ := h; rfl) (fun cdv A0 outer s H vs Q E hr h => ?_)
  obtain ⟨v0, v1, rfl, h⟩ := h
  exact ⟨t_is_way K, (pss_cons (ps_asg (pv 1) (pg_tup (by rfl) (pgs_cons (pg_name (i := 2) sc_is_way.nd rfl (Or.inl rfl)) (pgs_cons (pg_name (i := 3) sc_is_way.nd rfl (Or.inl rfl)) pgs_nil))))
      (pss_one (ps_ret (pe_and (pe_cmpR op_ne (pv 2) (pv 3) (nomark _)) (pe_and (pe_cmpR op_ge (pe_callB (q_min2 (by rfl)) (by rfl) T.z_min (by decide +kernel) (pa_cons (pv 2) (pa_cons (pv 3) pa_nil))) pe_int (nomark _)) (pe_one (pe_cmpR op_lt (pe_callB (q_max2 (by rfl)) (by rfl) T.z_max (by decide +kernel) (pa_cons (pv 2) (pa_cons (pv 3) pa_nil))) (pe_call (ok_places_of T) (hr.mono (by decide)) (by rfl) T.g_places_of T.F_places_of.kp T.b_places_of .nil pass0 (pa_cons (pv 0) pa_nil)) (nomark _)))))))), pure_is_way h⟩


theorem below_lt {ps : List Int} {k : Nat} : ∀ x, x < k → below ps k x = false
  | 0, h => by unfold below; exact decide_eq_false (by omega)
  | x + 1, h => by
    unfold below
    rw [decide_eq_false (show ¬ k = x + 1 by omega), decide_eq_false (show ¬ k < x + 1 by omega)]; rfl
theorem below_self {ps : List Int} (k : Nat) : below ps k k = true := by
  cases k with
  | zero => unfold below; rfl
  | succ x => unfold below; rw [decide_eq_true rfl]; rfl
theorem below_step {ps : List Int} (h : TreeOk ps) {k x : Nat} (hx : x < ps.length) (hk : k ≠ x + 1) : below ps k (x + 1) = below ps k (ps.getD x 0).toNat := by
  have hp := h.2.2 x hx
  have hlt : (ps.getD x 0).toNat < x + 1 := by omega
  rw [below, decide_eq_false hk, Bool.false_or, dif_pos hlt]
  by_cases c : k < x + 1
  · rw [decide_eq_true c, Bool.true_and]
  · rw [decide_eq_false c, Bool.false_and, below_lt _ (by omega)]
theorem ring_step {n a b t : Int} (a0 : 0 ≤ a) (a1 : a < n) (b0 : 0 ≤ b) (b1 : b < n) (ne : a ≠ b) (t0 : 0 ≤ t) (t1 : t < n) :
    (up n a t < up n a b ↔ t = a ∨ up n ((a + 1) % n) t < up n ((a + 1) % n) b) ∧ (t = a → ¬ up n ((a + 1) % n) t < up n ((a + 1) % n) b) := by
  have e : (a + 1) % n = if a + 1 = n then 0 else a + 1 := by
    split
    · rename_i h; rw [h]; exact Int.emod_self
    · exact Int.emod_eq_of_lt (by omega) (by omega)
  rw [e]
  unfold up
  constructor
  · constructor
    · intro h; repeat' split at h
      all_goals repeat' split
      all_goals omega
    · intro h; repeat' split at h
      all_goals repeat' split
      all_goals omega
  · intro h; subst h
    repeat' split
    all_goals omega
theorem ring_far {n a b : Int} (a0 : 0 ≤ a) (a1 : a < n) (b0 : 0 ≤ b) (b1 : b < n) (ne : a ≠ b) : up n ((a + 1) % n) b = up n a b - 1 ∧ 0 ≤ (a + 1) % n ∧ (a + 1) % n < n ∧ 0 < up n a b ∧ up n a b < n := by
  have e : (a + 1) % n = if a + 1 = n then 0 else a + 1 := by
    split
    · rename_i h; rw [h]; exact Int.emod_self
    · exact Int.emod_eq_of_lt (by omega) (by omega)
  rw [e]
  unfold up
  refine ⟨?_, ?_, ?_, ?_, ?_⟩ <;> repeat' split
  all_goals omega
theorem up_self (n a : Int) : up n a a = 0 := by unfold up; split <;> omega
theorem up_nonneg {n a b : Int} (a0 : 0 ≤ a) (a1 : a < n) (b0 : 0 ≤ b) (b1 : b < n) : 0 ≤ up n a b := by unfold up; split <;> omega
/-- the greater end climbs -/
theorem tree_step {ps : List Int} (h : TreeOk ps) {x y t : Int} (x0 : 0 ≤ x) (x1 : x < ps.length + 1) (y0 : 0 ≤ y) (yx : y < x) (t0 : 0 ≤ t) :
    (below ps (t.toNat + 1) x.toNat ≠ below ps (t.toNat + 1) y.toNat ↔ t = x - 1 ∨ below ps (t.toNat + 1) (ps.getD (x - 1).toNat 0).toNat ≠ below ps (t.toNat + 1) y.toNat) ∧
    (t = x - 1 → ¬ below ps (t.toNat + 1) (ps.getD (x - 1).toNat 0).toNat ≠ below ps (t.toNat + 1) y.toNat) := by
  have hp := h.2.2 (x - 1).toNat (by omega)
  by_cases c : t = x - 1
  · subst c
    have e1 : (x - 1).toNat + 1 = x.toNat := by omega
    rw [e1, below_self, below_lt y.toNat (by omega), below_lt (ps.getD (x - 1).toNat 0).toNat (by omega)]
    simp
  · have e1 : x.toNat = (x - 1).toNat + 1 := by omega
    have := below_step h (k := t.toNat + 1) (x := (x - 1).toNat) (by omega) (by omega)
    rw [e1, this]
    simp [c]
theorem srt_of {fs ns : List Int} (nd : fs.Nodup) (pm : ns.Perm fs) (srt : ns.Pairwise (· ≤ ·)) : ns.Pairwise (· < ·) := by
  have := srt.and (pm.nodup_iff.mpr nd)
  exact this.imp fun ⟨a, b⟩ => by omega
def pr_ties_on (K : PySem.W.Frag) (v0 v1 : V) (H : Hp) (Q : VK) (_ : XK) : Prop := ∃ (N : Net) (a b : Int), Dp K H v0 N.d ∧ Dp K H v1 (dPair (a, b)) ∧ N.ok ∧ isWay N a b ∧ ∀ p ns H', H p = none → Same H H' → H' p = some (.lst (List.map V.int ns)) → TiesOf N a b ns → Q (.ref p) H'
def t_ties_on (K : PySem.W.Frag) : TS :=
  (tSeq (tAsg (tVar 1) (gTup K 2 (gCons (gName 2) (gCons (gName 3) gNil))))
    (tSeq (tAsg (tLst tNil) (gName 4))
    (tSeq (tIfS (tTest (tOp rEq (tOp (rIxT K) (tVar 0) (tC (.int 0))) (tC (.str (Str.ofString "line"))))) (tRet (tLstRg (tRg2 (tCB rMin2 (tCons (tVar 2) (tCons (tVar 3) tNil))) (tCB rMax2 (tCons (tVar 2) (tCons (tVar 3) tNil)))))) tNext)
    (tSeq (tWhile (tTest (tOp rNe (tVar 2) (tVar 3)))
      (tIfS (tTest (tOp rEq (tOp (rIxT K) (tVar 0) (tC (.int 0))) (tC (.str (Str.ofString "ring"))))) (tSeq (tDrop (tBM K "list" rAppend (tVar 4) (tCons (tVar 2) tNil)))
    (tAsg (tOp xMod (tOp xAdd (tVar 2) (tC (.int 1))) (tOp (rIxT K) (tVar 0) (tC (.int 1)))) (gName 2))) (tIfS (tTest (tOp xGt (tVar 2) (tVar 3))) (tSeq (tDrop (tBM K "list" rAppend (tVar 4) (tCons (tOp xSub (tVar 2) (tC (.int 1))) tNil)))
    (tAsg (tOp (rIxL K) (tOp (rIxT K) (tVar 0) (tC (.int 1))) (tOp xSub (tVar 2) (tC (.int 1)))) (gName 2))) (tSeq (tDrop (tBM K "list" rAppend (tVar 4) (tCons (tOp xSub (tVar 3) (tC (.int 1))) tNil)))
    (tAsg (tOp (rIxL K) (tOp (rIxT K) (tVar 0) (tC (.int 1))) (tOp xSub (tVar 3) (tC (.int 1)))) (gName 3))))))
    (tRet (tCB (rSortedI K) (tCons (tVar 4) tNil)))))))
def Net.far2 (N : Net) (a b a' b' : Int) (fs : List Int) (m : Nat) : Prop := match N with
  | .line _ => True
  | .ring n => (m : Int) = up n a' b' ∧ (fs.length : Int) + m = up n a b
  | .tree _ => (m : Int) = a' + b' ∧ (fs.length : Int) + m ≤ a + b
theorem pure_ties_on {v0 v1 : V} {H : Hp} {Q : VK} {E : XK} (h : pr_ties_on K v0 v1 H Q E) : t_ties_on K ⟨fun _ H' => Q .non H', Q, fun _ _ => False, fun _ _ => False⟩ [some v0, some v1, none, none, none] H := by
  obtain ⟨N, a, b, hd, hw, ok, ⟨w1, w2, w3, w4, w5⟩, q⟩ := h
  obtain ⟨c, y, rfl, hs, hy⟩ := dp_net hd
  obtain ⟨p, rfl, hp⟩ := dp_pair hw
  unfold t_ties_on
  wtm_at "s"
  refine ⟨sz (by simp), fun fo nfo => ?_⟩
  have s1 := same_new (o := .lst []) nfo
  have e1 : upd H fo (.lst []) fo = some (.lst (List.map V.int [])) := upd_same
  generalize upd H fo (.lst []) = H1 at s1 e1 ⊢
  wtm_at "s"
  refine k_eqS ?_
  have loop : ∀ (nx : L2.St → Hp → Prop) (bk ct : L2.St → Hp → Prop), (match N with | .line _ => False | _ => True) → ∀ (W : Nat → L2.St → Hp → Prop), True := fun _ _ _ _ _ => trivial
  cases N with
  | line n =>
    obtain rfl := dp_int hy
    rw [show Net.kind (.line n) = Str.ofString "line" from rfl, s_same]
    obtain ⟨o1, o2⟩ := ok
    have w4' : a < n := w4
    have w5' : b < n := w5
    wtm_at "s"
    have hmn : (if b < a then b else a) = min a b := by split <;> omega
    have hmx : (if b > a then b else a) = max a b := by split <;> omega
    rw [hmn, hmx]
    refine ⟨.of_le (by omega) (by omega) (by omega) (by omega), fun l nl => ?_⟩
    refine q l ((List.range (max a b - min a b).toNat).map fun i => min a b + (i : Nat)) _ (s1.free nl) (s1.trans (same_new nl)) (by rw [upd_same, rg_ints]) ⟨?_, fun t => ?_, ?_⟩
    · exact List.pairwise_map.mpr (List.pairwise_lt_range.imp fun h => by omega)
    · show _ ↔ min a b ≤ t ∧ t < max a b
      rw [List.mem_map]
      constructor
      · rintro ⟨i, hi, rfl⟩
        have := List.mem_range.mp hi
        omega
      · intro h
        exact ⟨(t - min a b).toNat, List.mem_range.mpr (by omega), by omega⟩
    · show ((List.map _ _).length : Int) = max a b - min a b
      rw [List.length_map, List.length_range]
      omega
  | ring n =>
    obtain rfl := dp_int hy
    rw [show Net.kind (.ring n) = Str.ofString "ring" from rfl] at hs ⊢
    rw [s_rl]
    obtain ⟨o1, o2⟩ := ok
    have w4' : a < n := w4
    have w5' : b < n := w5
    have u0 := up_nonneg w2 w4' w3 w5'
    wtm_at "s"
    refine ⟨fun m σ' H' => ∃ a' fs, σ' = [some (.ref c), some (.ref p), some (.int a'), some (.int b), some (.ref fo)] ∧ Same H H' ∧ H' fo = some (.lst (List.map V.int fs)) ∧ 0 ≤ a' ∧ a' < n ∧ fs.Nodup ∧ (m : Int) = up n a' b ∧ (fs.length : Int) + m = up n a b ∧
      (∀ t, OnTie (.ring n) a b t ↔ t ∈ fs ∨ OnTie (.ring n) a' b t) ∧ (∀ t, t ∈ fs → ¬ OnTie (.ring n) a' b t),
      ⟨(up n a b).toNat, a, [], rfl, s1, e1, w2, w4', List.nodup_nil, by omega, by simp; omega, fun t => by simp, fun t z => by cases z⟩, ?_⟩
    rintro m σ' H' ⟨a', fs, rfl, sm, hf, a0, a1, nd, hm, hfl, ht, hn⟩
    wtm_at "s"
    refine k_itn (fun c1 => ?_) (fun c1 => ?_)
    · obtain ⟨f1, f2, f3, f4, f5⟩ := ring_far a0 a1 w3 w5' c1
      have uab : up n a b < n := by unfold up; split <;> omega
      refine ⟨fun σ' H' => ∃ fs', σ' = [some (.ref c), some (.ref p), some (.int ((a' + 1) % n)), some (.int b), some (.ref fo)] ∧ Same H H' ∧ H' fo = some (.lst (List.map V.int fs')) ∧ fs'.Nodup ∧ (fs'.length : Int) + (m - 1 : Nat) = up n a b ∧
        (∀ t, OnTie (.ring n) a b t ↔ t ∈ fs' ∨ OnTie (.ring n) ((a' + 1) % n) b t) ∧ (∀ t, t ∈ fs' → ¬ OnTie (.ring n) ((a' + 1) % n) b t), fun σ' H' ⟨fs', e, g1, g2, g3, g4, g5, g6⟩ => ⟨m - 1, by omega, _, fs', e, g1, g2, f2, f3, g3, by omega, g4, g5, g6⟩, ?_⟩
      have hs' : SqT K H' c [.str (Str.ofString "ring"), .int n] := same_seqT sm hs
      wtm_at "s"
      refine k_eqS ?_
      rw [s_same]
      wtm_at "s"
      refine k_tyL (sl hf) ?_
      wtm_at "s"
      refine k_append hf (by rw [List.length_map]; omega) ?_
      have hs2 : SqT K (upd H' fo (.lst (List.map V.int fs ++ [.int a']))) c [.str (Str.ofString "ring"), .int n] := same_seqT (same_mut sm nfo) hs
      wtm_at "s"
      refine ⟨fs ++ [a'], rfl, same_mut sm nfo, by rw [upd_same, List.map_append]; rfl, ?_, ?_, fun t => ?_, fun t z => ?_⟩
      · refine List.nodup_append.mpr ⟨nd, by simp, fun x hx y hy e => ?_⟩
        have : y = a' := by simpa using hy
        subst this; subst e
        exact hn x hx ⟨a0, a1, by rw [up_self]; exact f4⟩
      · rw [List.length_append]; show ((fs.length + 1 : Nat) : Int) + _ = _; omega
      · rw [ht t, List.mem_append]
        show t ∈ fs ∨ (0 ≤ t ∧ t < n ∧ up n a' t < up n a' b) ↔ (t ∈ fs ∨ t ∈ [a']) ∨ (0 ≤ t ∧ t < n ∧ _)
        by_cases r : 0 ≤ t ∧ t < n
        · have st := (ring_step a0 a1 w3 w5' c1 r.1 r.2).1
          simp only [r.1, r.2, true_and, List.mem_singleton, st, or_assoc]
        · have : t ≠ a' := fun e => r (by omega)
          constructor
          · rintro (h | h)
            · exact .inl (.inl h)
            · exact absurd ⟨h.1, h.2.1⟩ r
          · rintro ((h | h) | h)
            · exact .inl h
            · exact absurd (by simpa using h) this
            · exact absurd ⟨h.1, h.2.1⟩ r
      · rcases List.mem_append.mp z with z | z
        · intro o
          obtain ⟨o1, o2, o3⟩ := o
          exact hn t z ⟨o1, o2, (ring_step a0 a1 w3 w5' c1 o1 o2).1.mpr (.inr o3)⟩
        · have e : t = a' := by simpa using z
          intro o
          obtain ⟨o1, o2, o3⟩ := o
          exact (ring_step a0 a1 w3 w5' c1 o1 o2).2 e o3
    · subst c1
      rw [up_self] at hm
      wtm_at "s"
      refine k_sortedI (sl hf) (fun ns l pm srt nl => ?_)
      refine q l ns _ (sm.free nl) (sm.trans (same_new nl)) upd_same ⟨srt_of nd pm srt, fun t => ?_, ?_⟩
      · rw [pm.mem_iff, ht t]
        constructor
        · exact .inl
        · rintro (h | h)
          · exact h
          · obtain ⟨_, _, h⟩ := h
            rw [up_self] at h
            have := up_nonneg a0 a1 (b := t) (by assumption) (by assumption)
            omega
      · show (ns.length : Int) = up n a a'
        rw [pm.length_eq]; omega
  | tree ps =>
    obtain ⟨d, rfl, hdl⟩ := dp_ints hy
    rw [show Net.kind (.tree ps) = Str.ofString "tree" from rfl] at hs ⊢
    rw [s_tl]
    have w4' : a < ps.length + 1 := w4
    have w5' : b < ps.length + 1 := w5
    have l60 := ok.2.1
    wtm_at "s"
    refine ⟨fun m σ' H' => ∃ a' b' fs, σ' = [some (.ref c), some (.ref p), some (.int a'), some (.int b'), some (.ref fo)] ∧ Same H H' ∧ H' fo = some (.lst (List.map V.int fs)) ∧ 0 ≤ a' ∧ a' < ps.length + 1 ∧ 0 ≤ b' ∧ b' < ps.length + 1 ∧ fs.Nodup ∧ (m : Int) = a' + b' ∧ (fs.length : Int) + m ≤ a + b ∧
      (∀ t, OnTie (.tree ps) a b t ↔ t ∈ fs ∨ OnTie (.tree ps) a' b' t) ∧ (∀ t, t ∈ fs → ¬ OnTie (.tree ps) a' b' t),
      ⟨(a + b).toNat, a, b, [], rfl, s1, e1, w2, w4', w3, w5', List.nodup_nil, by omega, by simp; omega, fun t => by simp, fun t z => by cases z⟩, ?_⟩
    rintro m σ' H' ⟨a', b', fs, rfl, sm, hf, a0, a1, b0, b1, nd, hm, hfl, ht, hn⟩
    wtm_at "s"
    refine k_itn (fun c1 => ?_) (fun c1 => ?_)
    · refine ⟨fun σ' H' => ∃ m' a2 b2 fs', m' < m ∧ σ' = [some (.ref c), some (.ref p), some (.int a2), some (.int b2), some (.ref fo)] ∧ Same H H' ∧ H' fo = some (.lst (List.map V.int fs')) ∧ 0 ≤ a2 ∧ a2 < ps.length + 1 ∧ 0 ≤ b2 ∧ b2 < ps.length + 1 ∧ fs'.Nodup ∧ (m' : Int) = a2 + b2 ∧ (fs'.length : Int) + m' ≤ a + b ∧
        (∀ t, OnTie (.tree ps) a b t ↔ t ∈ fs' ∨ OnTie (.tree ps) a2 b2 t) ∧ (∀ t, t ∈ fs' → ¬ OnTie (.tree ps) a2 b2 t), fun σ' H' ⟨m', a2, b2, fs', l, r⟩ => ⟨m', l, a2, b2, fs', r⟩, ?_⟩
      have hs' : SqT K H' c [.str (Str.ofString "tree"), .ref d] := same_seqT sm hs
      wtm_at "s"
      refine k_eqS ?_
      rw [s_tr]
      wtm_at "s"
      refine k_it (fun c2 => ?_) (fun c2 => ?_)
      · have hpa := ok.2.2 (a' - 1).toNat (by omega)
        wtm_at "s"
        refine k_tyL (sl hf) ?_
        wtm_at "s"
        refine k_append hf (by rw [List.length_map]; omega) ?_
        have sm2 : Same H (upd H' fo (.lst (List.map V.int fs ++ [.int (a' - 1)]))) := same_mut sm nfo
        have hs2 : SqT K (upd H' fo (.lst (List.map V.int fs ++ [.int (a' - 1)]))) c [.str (Str.ofString "tree"), .ref d] := same_seqT sm2 hs
        wtm_at "s"
        refine k_ixI (sm2.seq hdl) (by omega) (by omega) ?_
        wtm_at "s"
        refine ⟨(ps.getD (a' - 1).toNat 0 + b').toNat, _, _, fs ++ [a' - 1], by omega, rfl, sm2, by rw [upd_same, List.map_append]; rfl, by omega, by omega, b0, b1, ?_, by omega, ?_, fun t => ?_, fun t z => ?_⟩
        · refine List.nodup_append.mpr ⟨nd, by simp, fun x hx y hy e => ?_⟩
          have : y = a' - 1 := by simpa using hy
          subst this; subst e
          exact hn _ hx ⟨by omega, by omega, (tree_step ok a0 a1 b0 c2 (by omega)).1.mpr (.inl rfl)⟩
        · rw [List.length_append]; show ((fs.length + 1 : Nat) : Int) + _ ≤ _; omega
        · rw [ht t, List.mem_append]
          show t ∈ fs ∨ (0 ≤ t ∧ t < ps.length ∧ _) ↔ (t ∈ fs ∨ t ∈ [a' - 1]) ∨ (0 ≤ t ∧ t < ps.length ∧ _)
          by_cases r : 0 ≤ t ∧ t < ps.length
          · have st := (tree_step ok a0 a1 b0 c2 r.1).1
            simp only [r.1, r.2, true_and, List.mem_singleton, st, or_assoc]
          · have : t ≠ a' - 1 := fun e => r (by omega)
            constructor
            · rintro (h | h)
              · exact .inl (.inl h)
              · exact absurd ⟨h.1, h.2.1⟩ r
            · rintro ((h | h) | h)
              · exact .inl h
              · exact absurd (by simpa using h) this
              · exact absurd ⟨h.1, h.2.1⟩ r
        · rcases List.mem_append.mp z with z | z
          · rintro ⟨o1, o2, o3⟩
            exact hn t z ⟨o1, o2, (tree_step ok a0 a1 b0 c2 o1).1.mpr (.inr o3)⟩
          · have e : t = a' - 1 := by simpa using z
            rintro ⟨o1, o2, o3⟩
            exact (tree_step ok a0 a1 b0 c2 o1).2 e o3
      · have c3 : a' < b' := by omega
        have hpb := ok.2.2 (b' - 1).toNat (by omega)
        have sym : ∀ u v t, OnTie (.tree ps) u v t ↔ OnTie (.tree ps) v u t := fun u v t => by
          show (_ ∧ _ ∧ _ ≠ _) ↔ (_ ∧ _ ∧ _ ≠ _)
          constructor
          · rintro ⟨x1, x2, x3⟩; exact ⟨x1, x2, x3.symm⟩
          · rintro ⟨x1, x2, x3⟩; exact ⟨x1, x2, x3.symm⟩
        wtm_at "s"
        refine k_tyL (sl hf) ?_
        wtm_at "s"
        refine k_append hf (by rw [List.length_map]; omega) ?_
        have sm2 : Same H (upd H' fo (.lst (List.map V.int fs ++ [.int (b' - 1)]))) := same_mut sm nfo
        have hs2 : SqT K (upd H' fo (.lst (List.map V.int fs ++ [.int (b' - 1)]))) c [.str (Str.ofString "tree"), .ref d] := same_seqT sm2 hs
        wtm_at "s"
        refine k_ixI (sm2.seq hdl) (by omega) (by omega) ?_
        wtm_at "s"
        refine ⟨(a' + ps.getD (b' - 1).toNat 0).toNat, _, _, fs ++ [b' - 1], by omega, rfl, sm2, by rw [upd_same, List.map_append]; rfl, a0, a1, by omega, by omega, ?_, by omega, ?_, fun t => ?_, fun t z => ?_⟩
        · refine List.nodup_append.mpr ⟨nd, by simp, fun x hx y hy e => ?_⟩
          have : y = b' - 1 := by simpa using hy
          subst this; subst e
          exact hn _ hx ((sym _ _ _).mpr ⟨by omega, by omega, (tree_step ok b0 b1 a0 c3 (by omega)).1.mpr (.inl rfl)⟩)
        · rw [List.length_append]; show ((fs.length + 1 : Nat) : Int) + _ ≤ _; omega
        · rw [ht t, List.mem_append, sym a' b', sym a' (ps.getD (b' - 1).toNat 0)]
          show t ∈ fs ∨ (0 ≤ t ∧ t < ps.length ∧ _) ↔ (t ∈ fs ∨ t ∈ [b' - 1]) ∨ (0 ≤ t ∧ t < ps.length ∧ _)
          by_cases r : 0 ≤ t ∧ t < ps.length
          · have st := (tree_step ok b0 b1 a0 c3 r.1).1
            simp only [r.1, r.2, true_and, List.mem_singleton, st, or_assoc]
          · have : t ≠ b' - 1 := fun e => r (by omega)
            constructor
            · rintro (h | h)
              · exact .inl (.inl h)
              · exact absurd ⟨h.1, h.2.1⟩ r
            · rintro ((h | h) | h)
              · exact .inl h
              · exact absurd (by simpa using h) this
              · exact absurd ⟨h.1, h.2.1⟩ r
        · rw [sym]
          rcases List.mem_append.mp z with z | z
          · rintro ⟨o1, o2, o3⟩
            exact hn t z ((sym _ _ _).mpr ⟨o1, o2, (tree_step ok b0 b1 a0 c3 o1).1.mpr (.inr o3)⟩)
          · have e : t = b' - 1 := by simpa using z
            rintro ⟨o1, o2, o3⟩
            exact (tree_step ok b0 b1 a0 c3 o1).2 e o3
    · subst c1
      wtm_at "s"
      refine k_sortedI (sl hf) (fun ns l pm srt nl => ?_)
      refine q l ns _ (sm.free nl) (sm.trans (same_new nl)) upd_same ⟨srt_of nd pm srt, fun t => ?_, ?_⟩
      · rw [pm.mem_iff, ht t]
        constructor
        · exact .inl
        · rintro (h | h)
          · exact h
          · exact absurd rfl h.2.2
      · show ns.length < 120
        rw [pm.length_eq]; omega
abbrev sp_ties_on (K : PySem.W.Frag) : Sp := fun vs H Q E => ∃ v0 v1, vs = [v0, v1] ∧ pr_ties_on K v0 v1 H Q E
theorem ok_ties_on (T : Txt K mg A) : FnOk P w K mg base CX0 1 A.a_ties_on A.d_ties_on ["net", "way"] (sp_ties_on K) := by
  refine T.F_ties_on.ok sc_ties_on (fun vs H Q E h => by obtain ⟨v0, v1, rfl, _⟩ := h; rfl) (fun cdv A0 outer s H vs Q E hr h => ?_)
  obtain ⟨v0, v1, rfl, h⟩ := h
  exact ⟨t_ties_on K, (pss_cons (ps_asg (pv 1) (pg_tup (by rfl) (pgs_cons (pg_name (i := 2) sc_ties_on.nd rfl (Or.inl rfl)) (pgs_cons (pg_name (i := 3) sc_ties_on.nd rfl (Or.inl rfl)) pgs_nil))))
      (pss_cons (ps_set (i := 4) sc_ties_on.nd rfl (Or.inl rfl) (pe_lst pa_nil))
      (pss_cons (ps_if (pt_cmpR op_eq (pe_ix ix_tup (pv 0) pe_int (fun _ _ => rfl)) pe_str (nomark _)) (pss_one (ps_ret (pe_listRg (by rfl) (by rfl) T.z_list (prg_2 (by rfl) T.z_range (pe_callB (q_min2 (by rfl)) (by rfl) T.z_min (by decide +kernel) (pa_cons (pv 2) (pa_cons (pv 3) pa_nil))) (pe_callB (q_max2 (by rfl)) (by rfl) T.z_max (by decide +kernel) (pa_cons (pv 2) (pa_cons (pv 3) pa_nil))))))) pss_nil)
      (pss_cons (ps_while PassesOwn.never (pt_cmpR op_ne (pv 2) (pv 3) (nomark _))
      (pss_one (ps_if (pt_cmpR op_eq (pe_ix ix_tup (pv 0) pe_int (fun _ _ => rfl)) pe_str (nomark _)) (pss_cons (ps_expr (pe_bm PySem.F.plainAttrs_list PySem.F.slot_list_append PySem.F.type_list_append mt_append (pv 4) (pa_cons (pv 2) pa_nil)))
      (pss_one (ps_set (i := 2) sc_ties_on.nd rfl (Or.inl rfl) (pe_op op_mod (pe_op op_add (pv 2) pe_int) (pe_ix ix_tup (pv 0) pe_int (fun _ _ => rfl)))))) (pss_one (ps_if (pt_cmpR op_gt (pv 2) (pv 3) (nomark _)) (pss_cons (ps_expr (pe_bm PySem.F.plainAttrs_list PySem.F.slot_list_append PySem.F.type_list_append mt_append (pv 4) (pa_cons (pe_op op_sub (pv 2) pe_int) pa_nil)))
      (pss_one (ps_set (i := 2) sc_ties_on.nd rfl (Or.inl rfl) (pe_ix ix_list (pe_ix ix_tup (pv 0) pe_int (fun _ _ => rfl)) (pe_op op_sub (pv 2) pe_int) (fun _ _ => rfl))))) (pss_cons (ps_expr (pe_bm PySem.F.plainAttrs_list PySem.F.slot_list_append PySem.F.type_list_append mt_append (pv 4) (pa_cons (pe_op op_sub (pv 3) pe_int) pa_nil)))
      (pss_one (ps_set (i := 3) sc_ties_on.nd rfl (Or.inl rfl) (pe_ix ix_list (pe_ix ix_tup (pv 0) pe_int (fun _ _ => rfl)) (pe_op op_sub (pv 3) pe_int) (fun _ _ => rfl))))))))))
      (pss_one (ps_ret (pe_callB cr_sortedI (by rfl) T.z_sorted (by decide +kernel) (pa_cons (pv 4) pa_nil)))))))), pure_ties_on h⟩
/-- the numbers below n that P takes -/
def keepI (n : Nat) (P : Nat → Bool) : List Int := ((List.range n).filter P).map fun (i : Nat) => (i : Int)
theorem keepI_fm (n : Nat) (P : Nat → Bool) : (List.range n).filterMap (fun i => if P i = true then some (V.int (0 + (i : Nat))) else none) = List.map V.int (keepI n P) := by
  unfold keepI
  rw [List.map_map]
  induction (List.range n) with
  | nil => rfl
  | cons x r ih =>
    by_cases c : P x = true
    · rw [List.filterMap_cons, if_pos c, List.filter_cons, if_pos c]
      simp only [List.map_cons]
      rw [ih]
      simp
    · rw [List.filterMap_cons, if_neg c, List.filter_cons, if_neg c]
      exact ih
theorem keepI_srt (n : Nat) (P : Nat → Bool) : (keepI n P).Pairwise (· < ·) := by
  unfold keepI
  exact List.pairwise_map.mpr ((List.pairwise_lt_range.filter P).imp fun h => by omega)
theorem keepI_mem {n : Nat} {P : Nat → Bool} {t : Int} : t ∈ keepI n P ↔ 0 ≤ t ∧ t < n ∧ P t.toNat = true := by
  unfold keepI
  rw [List.mem_map]
  constructor
  · rintro ⟨i, hi, rfl⟩
    obtain ⟨h1, h2⟩ := List.mem_filter.mp hi
    have := List.mem_range.mp h1
    exact ⟨by omega, by omega, by rw [Int.toNat_natCast]; exact h2⟩
  · rintro ⟨h0, h1, h2⟩
    exact ⟨t.toNat, List.mem_filter.mpr ⟨List.mem_range.mpr (by omega), h2⟩, by omega⟩
/-- an exception's class D is the i-th of the kinds -/
structure KindOf (K : PySem.W.Frag) (A : Ad) (D : Addr) (i : Nat) : Prop where
  lt : i < 15
  ve : PySem.W.kitOne K (.ref D) (.type "ValueError") = some true
  k0 : PySem.W.kitOne K (.ref D) (.ref A.c_NoNet) = some (decide (i = 0))
  k1 : PySem.W.kitOne K (.ref D) (.ref A.c_OtherNet) = some (decide (i = 1))
  k2 : PySem.W.kitOne K (.ref D) (.ref A.c_NoWay) = some (decide (i = 2))
  k3 : PySem.W.kitOne K (.ref D) (.ref A.c_TooMany) = some (decide (i = 3))
  k4 : PySem.W.kitOne K (.ref D) (.ref A.c_NoHues) = some (decide (i = 4))
  k5 : PySem.W.kitOne K (.ref D) (.ref A.c_NoCrossing) = some (decide (i = 5))
  k6 : PySem.W.kitOne K (.ref D) (.ref A.c_NoLot) = some (decide (i = 6))
  k7 : PySem.W.kitOne K (.ref D) (.ref A.c_NoPlace) = some (decide (i = 7))
  k8 : PySem.W.kitOne K (.ref D) (.ref A.c_NoNumber) = some (decide (i = 8))
  k9 : PySem.W.kitOne K (.ref D) (.ref A.c_NoTurning) = some (decide (i = 9))
  k10 : PySem.W.kitOne K (.ref D) (.ref A.c_NoTie) = some (decide (i = 10))
  k11 : PySem.W.kitOne K (.ref D) (.ref A.c_NoText) = some (decide (i = 11))
  k12 : PySem.W.kitOne K (.ref D) (.ref A.c_NoRow) = some (decide (i = 12))
  k13 : PySem.W.kitOne K (.ref D) (.ref A.c_NoName) = some (decide (i = 13))
  k14 : PySem.W.kitOne K (.ref D) (.ref A.c_NoForm) = some (decide (i = 14))
def kindName (i : Nat) : Str := Str.ofString (["net", "other", "way", "many", "hues", "crossing", "lot", "place", "number", "turning", "tie", "text", "row", "name", "form"].getD i "")
theorem kept_same {H H' : Hp} {a D : Addr} (k : KeptAt H a D) (s : Same H H') : KeptAt H' a D := by
  obtain ⟨d, e, h⟩ := k
  refine ⟨d, s _ _ e, ?_⟩
  rcases h with h | ⟨dd, fs, h1, h2⟩
  · exact .inl h
  · exact .inr ⟨dd, fs, h1, s _ _ h2⟩


theorem ok_init_NoWay (T : Txt K mg A) : FnOk P w K mg base CX0 1 A.i_NoWay A.di_NoWay ["self", "at"] (spInit A.c_NoWay (Str.ofString "at")) := by
  refine T.Fi_NoWay.ok sc_init_NoWay (fun vs H Q E h => by obtain ⟨v0, v1, rfl, _⟩ := h; rfl) (fun cdv A0 outer s H vs Q E hr h => ?_)
  obtain ⟨v0, v1, rfl, h⟩ := h
  exact ⟨_, pss_cons (ps_expr (pe_binit T.base_ (by rfl) (pa_cons (pv 0) (pa_cons pe_str pa_nil)))) (pss_one (ps_ost (pv 0) (pv 1))), init_reads (B := A.c_TieError) T.o_NoWay T.nf_NoWay h⟩
theorem ok_init_NoHues (T : Txt K mg A) : FnOk P w K mg base CX0 1 A.i_NoHues A.di_NoHues ["self", "place"] (spInit A.c_NoHues (Str.ofString "place")) := by
  refine T.Fi_NoHues.ok sc_init_NoHues (fun vs H Q E h => by obtain ⟨v0, v1, rfl, _⟩ := h; rfl) (fun cdv A0 outer s H vs Q E hr h => ?_)
  obtain ⟨v0, v1, rfl, h⟩ := h
  exact ⟨_, pss_cons (ps_expr (pe_binit T.base_ (by rfl) (pa_cons (pv 0) (pa_cons pe_str pa_nil)))) (pss_one (ps_ost (pv 0) (pv 1))), init_reads (B := A.c_TieError) T.o_NoHues T.nf_NoHues h⟩
theorem ok_init_NoText (T : Txt K mg A) : FnOk P w K mg base CX0 1 A.i_NoText A.di_NoText ["self", "row"] (spInit A.c_NoText (Str.ofString "row")) := by
  refine T.Fi_NoText.ok sc_init_NoText (fun vs H Q E h => by obtain ⟨v0, v1, rfl, _⟩ := h; rfl) (fun cdv A0 outer s H vs Q E hr h => ?_)
  obtain ⟨v0, v1, rfl, h⟩ := h
  exact ⟨_, pss_cons (ps_expr (pe_binit T.base_ (by rfl) (pa_cons (pv 0) (pa_cons pe_str pa_nil)))) (pss_one (ps_ost (pv 0) (pv 1))), init_reads (B := A.c_TieError) T.o_NoText T.nf_NoText h⟩
/-- the first of ws that is no way -/
def FirstBad (N : Net) (ws : List (Int × Int)) (i : Nat) : Prop := ∃ w, ws[i]? = some w ∧ ¬ isWay N w.1 w.2 ∧ ∀ j v, j < i → ws[j]? = some v → isWay N v.1 v.2
theorem no_bad {N : Net} {ws : List (Int × Int)} {i : Nat} (h : ∀ w ∈ ws, isWay N w.1 w.2) : ¬ FirstBad N ws i := fun ⟨w, h1, h2, _⟩ => h2 (h w (List.mem_of_getElem? h1))
theorem bad_one {N : Net} {ws : List (Int × Int)} {i j : Nat} (h1 : FirstBad N ws i) (h2 : FirstBad N ws j) : i = j := by
  obtain ⟨w1, x1, x2, x3⟩ := h1
  obtain ⟨w2, y1, y2, y3⟩ := h2
  by_cases c1 : i < j
  · exact absurd (y3 i w1 c1 x1) x2
  · by_cases c2 : j < i
    · exact absurd (x3 j w2 c2 y1) y2
    · omega
theorem bad_mid {N : Net} {ws vs : List (Int × Int)} {b : Int × Int} (h : ∀ w ∈ ws, isWay N w.1 w.2) (hb : ¬ isWay N b.1 b.2) : FirstBad N (ws ++ [b] ++ vs) ws.length := by
  refine ⟨b, by simp, hb, fun j v hj hv => ?_⟩
  rw [List.append_assoc, List.getElem?_append_left hj] at hv
  exact h v (List.mem_of_getElem? hv)
def pr_must_be_ways (K : PySem.W.Frag) (A : Ad) (v0 v1 : V) (H : Hp) (Q : VK) (E : XK) : Prop := ∃ (N : Net) (ws : List (Int × Int)), Dp K H v0 N.d ∧ Dp K H v1 (dPairs ws) ∧ ws.length ≤ 10000 ∧ ((∀ w ∈ ws, isWay N w.1 w.2) → Q .non H) ∧
  (∀ i, FirstBad N ws i → ∀ d, H d = none → E (.ref A.c_NoWay) (some d) (upd H d (.xd [(Str.ofString "at", .int i)])))
def t_must_be_ways (K : PySem.W.Frag) (A : Ad) (E : XK) : TS :=
  (tFor (iRng1 (tCons (tCB (rLenX K) (tCons (tVar 1) tNil)) tNil)) (gName 2)
      (tIfS (tNot (tB (tCall (sp_is_way K) [] E0 (tCons (tVar 0) (tCons (tOp (rIxL K) (tVar 1) (tVar 2)) tNil))))) (tRaiseO A.c_NoWay (spInit A.c_NoWay (Str.ofString "at")) (tCons (tVar 2) tNil) E) tNext))
theorem pure_must_be_ways {v0 v1 : V} {H : Hp} {Q : VK} {E : XK} (h : pr_must_be_ways K A v0 v1 H Q E) : t_must_be_ways K A E ⟨fun _ H' => Q .non H', Q, fun _ _ => False, fun _ _ => False⟩ [some v0, some v1, none] H := by
  obtain ⟨N, ws, hd, hw, hz, q, qx⟩ := h
  obtain ⟨b, xs, rfl, hb, hxs⟩ := dp_list hw
  have hl := dpa_len hxs
  rw [List.length_map] at hl
  unfold t_must_be_ways
  wtm_at "s"
  rw [hl]
  refine forR (fun i σ' H' => H' = H ∧ (∃ k, σ' = [some v0, some (.ref b), k]) ∧ ∀ (j : Nat) v, j < i → ws[j]? = some v → isWay N v.1 v.2) ⟨rfl, ⟨none, rfl⟩, fun j v hj => absurd hj (by omega)⟩ ?_ (fun σ' H' ⟨e, _, a⟩ => e ▸ q (fun w hw => by
    obtain ⟨j, hj, e⟩ := List.getElem_of_mem hw
    exact a j w (by simpa using hj) (by rw [List.getElem?_eq_getElem hj, e])))
  rintro i σ' H' hi ⟨rfl, ⟨k, rfl⟩, al⟩
  have hi' : i < xs.length := by omega
  obtain ⟨x, hx⟩ : ∃ x, xs[i]? = some x := ⟨xs[i], List.getElem?_eq_getElem hi'⟩
  obtain ⟨d, hd1, hd2⟩ := dpa_get hxs hx
  rw [List.getElem?_map] at hd1
  obtain ⟨w, hw1, rfl⟩ := Option.map_eq_some_iff.mp hd1
  wtm_at "s"
  refine k_ixL hb (by rw [Int.zero_add]; exact atI_nat hx) ?_
  wtm_at "s"
  refine ⟨_, _, rfl, N, w.1, w.2, hd, hd2, ?_⟩
  wtm_at "s"
  refine k_itn (fun c => ?_) (fun c => ?_)
  · refine k_raiseO (f := Str.ofString "at") (v := .int (0 + (i : Nat))) (fun R h => ?_) (fun d nd => ?_)
    · wtm_at "s"; exact h
    · rw [Int.zero_add]; exact qx i ⟨w, hw1, c, fun j v hj => al j v hj⟩ d nd
  · wtm_at "s"
    refine ⟨rfl, ⟨_, rfl⟩, fun j v hj hv => ?_⟩
    by_cases e : j = i
    · subst e; rw [hw1] at hv; cases hv; exact c
    · exact al j v (by omega) hv
abbrev sp_must_be_ways (K : PySem.W.Frag) (A : Ad) : Sp := fun vs H Q E => ∃ v0 v1, vs = [v0, v1] ∧ pr_must_be_ways K A v0 v1 H Q E
theorem ok_must_be_ways (T : Txt K mg A) : FnOk P w K mg base (L2.CX P w) 3 A.a_must_be_ways A.d_must_be_ways ["net", "ways"] (sp_must_be_ways K A) := by
  refine T.F_must_be_ways.okX sc_must_be_ways (fun vs H Q E h => by obtain ⟨v0, v1, rfl, _⟩ := h; rfl) (fun cdv A0 outer s H vs Q E hr h => ?_)
  obtain ⟨v0, v1, rfl, h⟩ := h
  exact ⟨t_must_be_ways K A E, (pss_one (ps_for (passes_of rfl) rfl (pi_range1 (by rfl) T.z_range (pa_cons (pe_callB q_len (by rfl) T.z_len (by decide +kernel) (pa_cons (pv 1) pa_nil)) pa_nil)) (pg_name (i := 2) sc_must_be_ways.nd rfl (Or.inl rfl))
      (pss_one (ps_if (pt_not (pt_val (pe_call (ok_is_way T) (hr.mono (by decide)) (by rfl) T.g_is_way T.F_is_way.kp T.b_is_way .nil pass0 (pa_cons (pv 0) (pa_cons (pe_ix ix_list (pv 1) (pv 2) (fun _ _ => rfl)) pa_nil))))) (pss_one (ps_raise rfl (takes_of rfl rfl rfl rfl) (pmk_oex T.o_NoWay T.in_NoWay T.ti_NoWay (ok_init_NoWay T) (hr.mono (by decide)) T.bi_NoWay .nil pass0 (by rfl) T.k_NoWay (pa_cons (pv 2) pa_nil)))) pss_nil)))), pure_must_be_ways h⟩

def pr_line_hues (K : PySem.W.Frag) (A : Ad) (v0 v1 : V) (H : Hp) (Q : VK) (E : XK) : Prop := ∃ (N : Net) (ws : List (Int × Int)), Dp K H v0 N.d ∧ N.ok ∧ Dp K H v1 (dPairs ws) ∧ ws.length ≤ 10000 ∧
  ((N.kind ≠ Str.ofString "line" ∧ E (.ref A.c_OtherNet) none H) ∨
   (∃ i, N.kind = Str.ofString "line" ∧ FirstBad N ws i ∧ ∀ d, H d = none → E (.ref A.c_NoWay) (some d) (upd H d (.xd [(Str.ofString "at", .int i)]))))
def t_line_hues (K : PySem.W.Frag) (A : Ad) (E : XK) : TS :=
  (tSeq (tDrop (tCall (sp_must_be_kind K A) [] E (tCons (tVar 0) (tCons (tC (.str (Str.ofString "line"))) tNil))))
    (tSeq (tDrop (tCall (sp_must_be_ways K A) [] E (tCons (tVar 0) (tCons (tVar 1) tNil))))
    (tSeq tNever
    (tSeq tNever
    (tSeq tNever
    (tSeq tNever
    (tSeq tNever
    tNever)))))))
theorem pure_line_hues {v0 v1 : V} {H : Hp} {Q : VK} {E : XK} (h : pr_line_hues K A v0 v1 H Q E) : t_line_hues K A E ⟨fun _ H' => Q .non H', Q, fun _ _ => False, fun _ _ => False⟩ [some v0, some v1, none, none, none, none, none, none, none, none] H := by
  obtain ⟨N, ws, hd, ok, hw, hz, h⟩ := h
  unfold t_line_hues
  wtm_at "s"
  rcases h with ⟨hk, qe⟩ | ⟨i, hk, fb, h⟩
  · exact ⟨_, _, rfl, N.a, _, rfl, (a_d N).symm ▸ hd, a_lens ok, .inr (.inl ⟨N, rfl, ok, hk, qe⟩)⟩
  · refine ⟨_, _, rfl, N.a, _, rfl, (a_d N).symm ▸ hd, a_lens ok, .inr (.inr ⟨N, rfl, ok, hk, ?_⟩)⟩
    wtm_at "s"
    exact ⟨_, _, rfl, N, ws, hd, hw, hz, fun z => absurd fb (no_bad z), fun j fb2 => bad_one fb fb2 ▸ h⟩
abbrev sp_line_hues (K : PySem.W.Frag) (A : Ad) : Sp := fun vs H Q E => ∃ v0 v1, vs = [v0, v1] ∧ pr_line_hues K A v0 v1 H Q E
theorem ok_line_hues (T : Txt K mg A) : FnOk P w K mg base (L2.CX P w) 5 A.a_line_hues A.d_line_hues ["net", "ways"] (sp_line_hues K A) := by
  refine T.F_line_hues.okX sc_line_hues (fun vs H Q E h => by obtain ⟨v0, v1, rfl, _⟩ := h; rfl) (fun cdv A0 outer s H vs Q E hr h => ?_)
  obtain ⟨v0, v1, rfl, h⟩ := h
  exact ⟨t_line_hues K A E, (pss_cons (ps_expr (pe_call (E := E) (ok_must_be_kind T) (hr.mono (by decide)) (by rfl) T.g_must_be_kind T.F_must_be_kind.kp T.b_must_be_kind .nil (passes_call (takes_of rfl rfl rfl rfl) (fun _ _ _ _ h => h)) (pa_cons (pv 0) (pa_cons pe_str pa_nil))))
      (pss_cons (ps_expr (pe_call (E := E) (ok_must_be_ways T) (hr.mono (by decide)) (by rfl) T.g_must_be_ways T.F_must_be_ways.kp T.b_must_be_ways .nil (passes_call (takes_of rfl rfl rfl rfl) (fun _ _ _ _ h => h)) (pa_cons (pv 0) (pa_cons (pv 1) pa_nil))))
      (pss_cons ps_never
      (pss_cons ps_never
      (pss_cons ps_never
      (pss_cons ps_never
      (pss_cons ps_never
      (pss_one ps_never)))))))), pure_line_hues h⟩

abbrev dCr (many : Int) (ps : List (Int × Int)) : PyData := .tuple [.int many, dPairs ps]
/-- a crossing -/
def CrOk (many : Int) (ps : List (Int × Int)) : Prop := 0 ≤ many ∧ many ≤ 60 ∧ ps.length ≤ 60 ∧ ∀ p ∈ ps, 0 ≤ p.1 ∧ p.1 ≤ p.2 ∧ p.2 < many
theorem dp_cr {H : Hp} {v : V} {many : Int} {ps : List (Int × Int)} (h : Dp K H v (dCr many ps)) : ∃ a b ys, v = .ref a ∧ SqT K H a [.int many, .ref b] ∧ SqL K H b ys ∧ DpAll K H ys (ps.map dPair) ∧ ys.length = ps.length := by
  obtain ⟨a, x, y, rfl, hs, hx, hy⟩ := dp_tup2 h
  obtain rfl := dp_int hx
  obtain ⟨b, ys, rfl, hb, hys⟩ := dp_list hy
  exact ⟨a, b, ys, rfl, hs, hb, hys, by rw [dpa_len hys, List.length_map]⟩
def pr_must_be_crossing (K : PySem.W.Frag) (A : Ad) (v0 : V) (H : Hp) (Q : VK) (E : XK) : Prop := ∃ (many : Int) (ps : List (Int × Int)), Dp K H v0 (dCr many ps) ∧ ps.length ≤ 10000 ∧ (CrOk many ps → Q .non H) ∧ (¬ CrOk many ps → E (.ref A.c_NoCrossing) none H)
def t_must_be_crossing (K : PySem.W.Frag) (A : Ad) (E : XK) : TS :=
  (tSeq (tAsg (tVar 0) (gTup K 2 (gCons (gName 1) (gCons (gName 2) gNil))))
    (tSeq (tIfS (tOr (tTest (tOp xLt (tVar 1) (tC (.int 0)))) (tOr (tTest (tOp xGt (tVar 1) (tC (.int 60)))) (tTest (tOp xGt (tCB (rLenX K) (tCons (tVar 2) tNil)) (tC (.int 60)))))) (tRaiseP A.c_NoCrossing E) tNext)
    (tFor (iList K (tVar 2)) (gTup K 2 (gCons (gName 3) (gCons (gName 4) gNil)))
      (tIfS (tOr (tTest (tOp xLt (tVar 3) (tC (.int 0)))) (tOr (tTest (tOp xGt (tVar 3) (tVar 4))) (tTest (tOp xGe (tVar 4) (tVar 1))))) (tRaiseP A.c_NoCrossing E) tNext))))
theorem pure_must_be_crossing {v0 : V} {H : Hp} {Q : VK} {E : XK} (hh : pr_must_be_crossing K A v0 H Q E) : t_must_be_crossing K A E ⟨fun _ H' => Q .non H', Q, fun _ _ => False, fun _ _ => False⟩ [some v0, none, none, none, none] H := by
  obtain ⟨many, ps, d0, lp, q, qe⟩ := hh
  obtain ⟨a, b, ys, rfl, hs, hb, hys, ly⟩ := dp_cr d0
  unfold t_must_be_crossing
  by_cases c0 : many < 0
  · wtm_at "s"
    exact qe fun z => by have := z.1; omega
  by_cases c1 : 60 < many
  · wtm_at "s"
    exact qe fun z => by have := z.2.1; omega
  by_cases c2 : 60 < ps.length
  · wtm_at "s"
    exact qe fun z => by have := z.2.2.1; omega
  wtm_at "s"
  refine forL hb (fun i σ' H' => H' = H ∧ (∀ (j : Nat) p, j < i → ps[j]? = some p → 0 ≤ p.1 ∧ p.1 ≤ p.2 ∧ p.2 < many) ∧ ∃ k3 k4, σ' = [some (.ref a), some (.int many), some (.ref b), k3, k4]) ⟨rfl, (fun j p z => by omega), _, _, rfl⟩ (fun i σ' H' _ e => e.1 ▸ hb) ?_ ?_
  · rintro i x σ' H' hxi ⟨rfl, al, k3', k4, rfl⟩
    obtain ⟨p, c, hp, rfl, hc⟩ := dpairs_get hys hxi
    by_cases ok : 0 ≤ p.1 ∧ p.1 ≤ p.2 ∧ p.2 < many
    · obtain ⟨p1, p2, p3⟩ := ok
      wtm_at "s"
      refine ⟨rfl, fun j p' hj hp' => ?_, _, _, rfl⟩
      by_cases e : j = i
      · subst e; rw [hp] at hp'; cases hp'; exact ⟨p1, p2, p3⟩
      · exact al j p' (by omega) hp'
    · have bad : ¬ CrOk many ps := fun z => ok (z.2.2.2 p (List.mem_of_getElem? hp))
      by_cases p1 : p.1 < 0
      · wtm_at "s"
        exact qe bad
      by_cases p2 : p.2 < p.1
      · wtm_at "s"
        exact qe bad
      have p3 : many ≤ p.2 := by omega
      wtm_at "s"
      exact qe bad
  · rintro σ' H' ⟨rfl, al, k3', k4, rfl⟩
    refine q ⟨by omega, by omega, by omega, fun p hp => ?_⟩
    obtain ⟨j, hj⟩ := List.mem_iff_getElem?.mp hp
    exact al j p (by have := (List.getElem?_eq_some_iff.mp hj).1; omega) hj
abbrev sp_must_be_crossing (K : PySem.W.Frag) (A : Ad) : Sp := fun vs H Q E => ∃ v0, vs = [v0] ∧ pr_must_be_crossing K A v0 H Q E
theorem ok_must_be_crossing (T : Txt K mg A) : FnOk P w K mg base (L2.CX P w) 3 A.a_must_be_crossing A.d_must_be_crossing ["crossing"] (sp_must_be_crossing K A) := by
  refine T.F_must_be_crossing.okX sc_must_be_crossing (fun vs H Q E h => by obtain ⟨v0, rfl, _⟩ := h; rfl) (fun cdv A0 outer s H vs Q E hr h => ?_)
  obtain ⟨v0, rfl, h⟩ := h
  exact ⟨t_must_be_crossing K A E, (pss_cons (ps_asg (pv 0) (pg_tup (by rfl) (pgs_cons (pg_name (i := 1) sc_must_be_crossing.nd rfl (Or.inl rfl)) (pgs_cons (pg_name (i := 2) sc_must_be_crossing.nd rfl (Or.inl rfl)) pgs_nil))))
      (pss_cons (ps_if (PW.pt (pw_or (pt_cmpR op_lt (pv 1) pe_int (nomark _)) (pw_or (pt_cmpR op_gt (pv 1) (pe_glob (v := .int 60) (by rfl) T.c_MOST_TIES ⟨_, rfl⟩) (nomark _)) (pw_or1 (pt_cmpR op_gt (pe_callB q_len (by rfl) T.z_len (by decide +kernel) (pa_cons (pv 2) pa_nil)) (pe_glob (v := .int 60) (by rfl) T.c_MOST_PAIRS ⟨_, rfl⟩) (nomark _)))))) (pss_one (ps_raise rfl (takes_of rfl rfl rfl rfl) (pmk_own PySem.F.excBase_ValueError T.e_NoCrossing T.k_NoCrossing T.p_NoCrossing (raises_own T.x_NoCrossing.hs T.t_NoCrossing) (by rfl)))) pss_nil)
      (pss_one (ps_for (passes_of rfl) rfl (pi_list (pv 2)) (pg_tup (by rfl) (pgs_cons (pg_name (i := 3) sc_must_be_crossing.nd rfl (Or.inl rfl)) (pgs_cons (pg_name (i := 4) sc_must_be_crossing.nd rfl (Or.inl rfl)) pgs_nil)))
      (pss_one (ps_if (PW.pt (pw_or (pt_cmpR op_lt (pv 3) pe_int (nomark _)) (pw_or (pt_cmpR op_gt (pv 3) (pv 4) (nomark _)) (pw_or1 (pt_cmpR op_ge (pv 4) (pv 1) (nomark _)))))) (pss_one (ps_raise rfl (takes_of rfl rfl rfl rfl) (pmk_own PySem.F.excBase_ValueError T.e_NoCrossing T.k_NoCrossing T.p_NoCrossing (raises_own T.x_NoCrossing.hs T.t_NoCrossing) (by rfl)))) pss_nil)))))), pure_must_be_crossing h⟩

def pr_cross_hues (K : PySem.W.Frag) (A : Ad) (v0 : V) (H : Hp) (Q : VK) (E : XK) : Prop := ∃ (many : Int) (ps : List (Int × Int)), Dp K H v0 (dCr many ps) ∧ ps.length ≤ 10000 ∧ ¬ CrOk many ps ∧ E (.ref A.c_NoCrossing) none H
def t_cross_hues (K : PySem.W.Frag) (A : Ad) (E : XK) : TS :=
  (tSeq (tDrop (tCall (sp_must_be_crossing K A) [] E (tCons (tVar 0) tNil)))
    (tSeq tNever
    (tSeq tNever
    tNever)))
theorem pure_cross_hues {v0 : V} {H : Hp} {Q : VK} {E : XK} (h : pr_cross_hues K A v0 H Q E) : t_cross_hues K A E ⟨fun _ H' => Q .non H', Q, fun _ _ => False, fun _ _ => False⟩ [some v0, none, none] H := by
  obtain ⟨many, ps, d0, hz, bad, qe⟩ := h
  unfold t_cross_hues
  wtm_at "s"
  exact ⟨_, rfl, many, ps, d0, hz, fun ok => absurd ok bad, fun _ => qe⟩
abbrev sp_cross_hues (K : PySem.W.Frag) (A : Ad) : Sp := fun vs H Q E => ∃ v0, vs = [v0] ∧ pr_cross_hues K A v0 H Q E
theorem ok_cross_hues (T : Txt K mg A) : FnOk P w K mg base (L2.CX P w) 4 A.a_cross_hues A.d_cross_hues ["crossing"] (sp_cross_hues K A) := by
  refine T.F_cross_hues.okX sc_cross_hues (fun vs H Q E h => by obtain ⟨v0, rfl, _⟩ := h; rfl) (fun cdv A0 outer s H vs Q E hr h => ?_)
  obtain ⟨v0, rfl, h⟩ := h
  exact ⟨t_cross_hues K A E, (pss_cons (ps_expr (pe_call (E := E) (ok_must_be_crossing T) (hr.mono (by decide)) (by rfl) T.g_must_be_crossing T.F_must_be_crossing.kp T.b_must_be_crossing .nil (passes_call (takes_of rfl rfl rfl rfl) (fun _ _ _ _ h => h)) (pa_cons (pv 0) pa_nil)))
      (pss_cons ps_never
      (pss_cons ps_never
      (pss_one ps_never)))), pure_cross_hues h⟩
def LotOk (n : Int) (ns : List Int) : Prop := 3 ≤ ns.length ∧ ns.length % 2 = 1 ∧ (∀ x ∈ ns, 0 ≤ x ∧ x < n) ∧ ∀ i, i + 1 < ns.length → ns.getD i 0 < ns.getD (i + 1) 0
def pr_is_lot (K : PySem.W.Frag) (v0 v1 : V) (H : Hp) (Q : VK) (_ : XK) : Prop := ∃ n ps ns, Dp K H v0 (dCr n ps) ∧ Dp K H v1 (dInts ns) ∧ ns.length ≤ 1000 ∧ ∀ H' b, Same H H' → (b = true ↔ LotOk n ns) → Q (.bl b) H'
def t_is_lot (K : PySem.W.Frag) : TS :=
  (tSeq (tIfS (tOr (tNot (tB (tCB (rIsi K) (tCons (tVar 1) (tCons (tC (.ty "list")) tNil))))) (tTest (tOp xGt (tCB (rLenX K) (tCons (tLc (iList K (tVar 1)) (gName 2) (tOr (tB (tCB (rIsi K) (tCons (tVar 2) (tCons (tC (.ty "bool")) tNil)))) (tNot (tB (tCB (rIsi K) (tCons (tVar 2) (tCons (tC (.ty "int")) tNil)))))) (tVar 2) [2]) tNil)) (tC (.int 0))))) (tRet (tC (.bl false))) tNext)
    (tSeq (tIfS (tOr (tTest (tOp xLt (tCB (rLenX K) (tCons (tVar 1) tNil)) (tC (.int 3)))) (tOr (tTest (tOp rEq (tOp xMod (tCB (rLenX K) (tCons (tVar 1) tNil)) (tC (.int 2))) (tC (.int 0)))) (tOr (tTest (tOp xLt (tCB (rMin K) (tCons (tVar 1) tNil)) (tC (.int 0)))) (tTest (tOp xGe (tCB (rMax K) (tCons (tVar 1) tNil)) (tOp (rIxT K) (tVar 0) (tC (.int 0)))))))) (tRet (tC (.bl false))) tNext)
    (tRet (tOp rEq (tCB (rLenX K) (tCons (tLc (iRng2 (tCons (tC (.int 1)) (tCons (tCB (rLenX K) (tCons (tVar 1) tNil)) tNil))) (gName 2) (tTest (tOp xLe (tOp (rIxL K) (tVar 1) (tVar 2)) (tOp (rIxL K) (tVar 1) (tOp xSub (tVar 2) (tC (.int 1)))))) (tVar 2) [2]) tNil)) (tC (.int 0))))))
theorem pure_is_lot {v0 v1 : V} {H : Hp} {Q : VK} {E : XK} (h : pr_is_lot K v0 v1 H Q E) : t_is_lot K ⟨fun _ H' => Q .non H', Q, fun _ _ => False, fun _ _ => False⟩ [some v0, some v1, none] H := by
  obtain ⟨n, ps, ns, hc, hn, hz, q⟩ := h
  obtain ⟨a, x, y, rfl, hs, hx, hy⟩ := dp_tup2 hc
  obtain rfl := dp_int hx
  obtain ⟨b, rfl, hb⟩ := dp_ints hn
  unfold t_is_lot
  wtm_at "s"
  refine lc_pure hb ns (by simp) (by omega) (fun _ => none) ?_ ?_
  · intro i x p H' hx hp sm R R0 h1 h2
    rw [List.getElem?_map, hp] at hx
    cases hx
    wtm_at "s"
    exact h2 rfl
  intro D H1 nD sm hD
  have e0 : List.filterMap (fun (_ : Int) => (none : Option V)) ns = [] := by simp
  rw [e0] at hD
  wtm_at "s"
  refine k_it (fun c1 => ?_) (fun c1 => ?_)
  · wtm_at "s"
    exact q _ _ sm (ff_iff fun z => absurd z.1 (by omega))
  wtm_at "s"
  refine k_it (fun c2 => ?_) (fun c2 => ?_)
  · wtm_at "s"
    exact q _ _ sm (ff_iff fun z => absurd z.2.1 (by omega))
  wtm_at "s"
  refine k_min (sm.seq hb) (by omega) (fun m1 hm1 hm2 => ?_)
  wtm_at "s"
  refine k_it (fun c3 => ?_) (fun c3 => ?_)
  · wtm_at "s"
    exact q _ _ sm (ff_iff fun z => absurd (z.2.2.1 m1 hm1).1 (by omega))
  wtm_at "s"
  refine k_max (sm.seq hb) (by omega) (fun m2 hm3 hm4 => ?_)
  wtm_at "s"
  refine k_it (fun c4 => ?_) (fun c4 => ?_)
  · wtm_at "s"
    exact q _ _ sm (ff_iff fun z => absurd (z.2.2.1 m2 hm3).2 (by omega))
  wtm_at "s"
  have hb1 := sm.seq hb
  refine lc_pureR (by omega) (fun i => if ns.getD (i + 1) 0 ≤ ns.getD i 0 then some (.int (1 + (i : Nat))) else none) ?_ ?_
  · intro i H' hi sm' R R0 h1 h2
    wtm_at "s"
    refine k_ixI (sm'.seq hb1) (by omega) (by omega) ?_
    wtm_at "s"
    refine k_ixI (sm'.seq hb1) (by omega) (by omega) ?_
    wtm_at "s"
    rw [show (1 + (i : Int)).toNat = i + 1 by omega, show (1 + (i : Int) - 1).toNat = i by omega]
    refine k_it (fun c => ?_) (fun c => ?_)
    · wtm_at "s"
      exact h1 _ (if_pos c)
    · exact h2 (if_neg c)
  intro D2 H2 nD2 sm2 hD2
  wtm_at "s"
  refine q _ _ (sm.trans sm2) ?_
  simp only [decide_eq_true_eq]
  constructor
  · intro e
    refine ⟨by omega, by omega, fun x hx => ⟨?_, ?_⟩, fun i hi => ?_⟩
    · have := hm2 x hx; omega
    · have := hm4 x hx; omega
    · have e1 : ∀ x ∈ List.range (↑ns.length - 1 : Int).toNat, (if ns.getD (x + 1) 0 ≤ ns.getD x 0 then some (V.int (1 + (x : Nat))) else none) = none := by
        have : (List.filterMap (fun i => if ns.getD (i + 1) 0 ≤ ns.getD i 0 then some (V.int (1 + (i : Nat))) else none) (List.range (↑ns.length - 1 : Int).toNat)) = [] := List.eq_nil_of_length_eq_zero (by omega)
        exact List.filterMap_eq_nil_iff.mp this
      have e2 := e1 i (by simp; omega)
      by_cases c : ns.getD (i + 1) 0 ≤ ns.getD i 0
      · rw [if_pos c] at e2; cases e2
      · omega
  · intro z
    have : (List.filterMap (fun i => if ns.getD (i + 1) 0 ≤ ns.getD i 0 then some (V.int (1 + (i : Nat))) else none) (List.range (↑ns.length - 1 : Int).toNat)) = [] := by
      refine List.filterMap_eq_nil_iff.mpr fun i hi => if_neg ?_
      have := z.2.2.2 i (by simp at hi; omega)
      omega
    rw [this]; rfl
abbrev sp_is_lot (K : PySem.W.Frag) : Sp := fun vs H Q E => ∃ v0 v1, vs = [v0, v1] ∧ pr_is_lot K v0 v1 H Q E
theorem ok_is_lot (T : Txt K mg A) : FnOk P w K mg base CX0 1 A.a_is_lot A.d_is_lot ["crossing", "lot"] (sp_is_lot K) := by
  refine T.F_is_lot.ok sc_is_lot (fun vs H Q E h => by obtain ⟨v0, v1, rfl, _⟩ := h; rfl) (fun cdv A0 outer s H vs Q E hr h => ?_)
  obtain ⟨v0, v1, rfl, h⟩ := h
  exact ⟨t_is_lot K, (pss_cons (ps_if (PW.pt (pw_or (pt_not (pt_val (pe_callB q_isi (by rfl) T.z_isinstance (by decide +kernel) (pa_cons (pv 1) (pa_cons (pe_bltn (v := .ty "list") (by rfl) T.z_list (by decide +kernel) rfl) pa_nil))))) (pw_or1 (pt_cmpR op_gt (pe_callB q_len (by rfl) T.z_len (by decide +kernel) (pa_cons (pe_lc (own := [("k", 2)]) (by rfl) sc_is_lot.nd (pi_list (pv 1)) (blkOk_by (own := [("k", 2)]) (N := ["crossing", "lot", "k"]) (sc := defScope s_is_lot) (by decide +kernel)) (fun _ _ _ _ _ => (pg_name (i := 2) sc_is_lot.nd rfl (Or.inl rfl))) (fun _ _ _ _ _ => (pts_one (PW.pt (pw_or (pt_val (pe_callB q_isi (by rfl) T.z_isinstance (by decide +kernel) (pa_cons (pv 2) (pa_cons (pe_bltn (v := .ty "bool") (by rfl) T.z_bool (by decide +kernel) rfl) pa_nil)))) (pw_or1 (pt_not (pt_val (pe_callB q_isi (by rfl) T.z_isinstance (by decide +kernel) (pa_cons (pv 2) (pa_cons (pe_bltn (v := .ty "int") (by rfl) T.z_int (by decide +kernel) rfl) pa_nil)))))))))) (fun _ _ _ _ _ => (pv 2))) pa_nil)) pe_int (nomark _))))) (pss_one (ps_ret pe_bl)) pss_nil)
      (pss_cons (ps_if (PW.pt (pw_or (pt_cmpR op_lt (pe_callB q_len (by rfl) T.z_len (by decide +kernel) (pa_cons (pv 1) pa_nil)) pe_int (nomark _)) (pw_or (pt_cmpR op_eq (pe_op op_mod (pe_callB q_len (by rfl) T.z_len (by decide +kernel) (pa_cons (pv 1) pa_nil)) pe_int) pe_int (nomark _)) (pw_or (pt_cmpR op_lt (pe_callB (cr_min (by rfl)) (by rfl) T.z_min (by decide +kernel) (pa_cons (pv 1) pa_nil)) pe_int (nomark _)) (pw_or1 (pt_cmpR op_ge (pe_callB (cr_max (by rfl)) (by rfl) T.z_max (by decide +kernel) (pa_cons (pv 1) pa_nil)) (pe_ix ix_tup (pv 0) pe_int (fun _ _ => rfl)) (nomark _))))))) (pss_one (ps_ret pe_bl)) pss_nil)
      (pss_one (ps_ret (pe_cmpR op_eq (pe_callB q_len (by rfl) T.z_len (by decide +kernel) (pa_cons (pe_lc (own := [("k", 2)]) (by rfl) sc_is_lot.nd (pi_range2 (by rfl) T.z_range (pa_cons pe_int (pa_cons (pe_callB q_len (by rfl) T.z_len (by decide +kernel) (pa_cons (pv 1) pa_nil)) pa_nil))) (blkOk_by (own := [("k", 2)]) (N := ["crossing", "lot", "k"]) (sc := defScope s_is_lot) (by decide +kernel)) (fun _ _ _ _ _ => (pg_name (i := 2) sc_is_lot.nd rfl (Or.inl rfl))) (fun _ _ _ _ _ => (pts_one (pt_cmpR op_le (pe_ix ix_list (pv 1) (pv 2) (fun _ _ => rfl)) (pe_ix ix_list (pv 1) (pe_op op_sub (pv 2) pe_int) (fun _ _ => rfl)) (nomark _)))) (fun _ _ _ _ _ => (pv 2))) pa_nil)) pe_int (nomark _)))))), pure_is_lot h⟩

def pr_lot_bound (K : PySem.W.Frag) (A : Ad) (v0 v1 : V) (H : Hp) (Q : VK) (E : XK) : Prop := ∃ n ps ns, Dp K H v0 (dCr n ps) ∧ Dp K H v1 (dInts ns) ∧ CrOk n ps ∧ ns.length ≤ 1000 ∧ ¬ LotOk n ns ∧ (∀ H', Same H H' → E (.ref A.c_NoLot) none H')
def t_lot_bound (K : PySem.W.Frag) (A : Ad) (E : XK) : TS :=
  (tSeq (tDrop (tCall (sp_must_be_crossing K A) [] E (tCons (tVar 0) tNil)))
    (tSeq (tIfS (tNot (tB (tCall (sp_is_lot K) [] E0 (tCons (tVar 0) (tCons (tVar 1) tNil))))) (tRaiseP A.c_NoLot E) tNext)
    tNever))
theorem pure_lot_bound {v0 v1 : V} {H : Hp} {Q : VK} {E : XK} (h : pr_lot_bound K A v0 v1 H Q E) : t_lot_bound K A E ⟨fun _ H' => Q .non H', Q, fun _ _ => False, fun _ _ => False⟩ [some v0, some v1] H := by
  obtain ⟨n, ps, ns, hc, hn, hok, hz, bad, qe⟩ := h
  unfold t_lot_bound
  wtm_at "s"
  refine ⟨_, rfl, n, ps, hc, by have := hok.2.2.1; omega, fun _ => ?_, fun z => absurd hok z⟩
  wtm_at "s"
  refine ⟨_, _, rfl, n, ps, ns, hc, hn, hz, fun H1 b sm hb => ?_⟩
  cases b with
  | true => exact absurd (hb.mp rfl) bad
  | false =>
    wtm_at "s"
    exact qe H1 sm
abbrev sp_lot_bound (K : PySem.W.Frag) (A : Ad) : Sp := fun vs H Q E => ∃ v0 v1, vs = [v0, v1] ∧ pr_lot_bound K A v0 v1 H Q E
theorem ok_lot_bound (T : Txt K mg A) : FnOk P w K mg base (L2.CX P w) 4 A.a_lot_bound A.d_lot_bound ["crossing", "lot"] (sp_lot_bound K A) := by
  refine T.F_lot_bound.okX sc_lot_bound (fun vs H Q E h => by obtain ⟨v0, v1, rfl, _⟩ := h; rfl) (fun cdv A0 outer s H vs Q E hr h => ?_)
  obtain ⟨v0, v1, rfl, h⟩ := h
  exact ⟨t_lot_bound K A E, (pss_cons (ps_expr (pe_call (E := E) (ok_must_be_crossing T) (hr.mono (by decide)) (by rfl) T.g_must_be_crossing T.F_must_be_crossing.kp T.b_must_be_crossing .nil (passes_call (takes_of rfl rfl rfl rfl) (fun _ _ _ _ h => h)) (pa_cons (pv 0) pa_nil)))
      (pss_cons (ps_if (pt_not (pt_val (pe_call (ok_is_lot T) (hr.mono (by decide)) (by rfl) T.g_is_lot T.F_is_lot.kp T.b_is_lot .nil pass0 (pa_cons (pv 0) (pa_cons (pv 1) pa_nil))))) (pss_one (ps_raise rfl (takes_of rfl rfl rfl rfl) (pmk_own PySem.F.excBase_ValueError T.e_NoLot T.k_NoLot T.p_NoLot (raises_own T.x_NoLot.hs T.t_NoLot) (by rfl)))) pss_nil)
      (pss_one ps_never))), pure_lot_bound h⟩

def pr_first_clash (K : PySem.W.Frag) (v0 v1 : V) (H : Hp) (Q : VK) (E : XK) : Prop := False
def t_first_clash (K : PySem.W.Frag) : TS :=
  (tSeq (tIfS (tTest (tOp rNe (tCB (rLenX K) (tCons (tVar 1) tNil)) (tCB (rLenX K) (tCons (tVar 0) tNil)))) (tRet (tTup (tCons (tUn xNeg (tC (.int 1))) (tCons (tUn xNeg (tC (.int 1))) tNil)))) tNext)
    (tSeq (tFor (iRng1 (tCons (tCB (rLenX K) (tCons (tVar 0) tNil)) tNil)) (gName 2)
      (tSeq (tIfS (tTest (tOp xLt (tOp (rIxL K) (tVar 1) (tVar 2)) (tC (.int 0)))) (tRet (tTup (tCons (tVar 2) (tCons (tVar 2) tNil)))) tNext)
    (tFor (iRng2 (tCons (tOp xAdd (tVar 2) (tC (.int 1))) (tCons (tCB (rLenX K) (tCons (tVar 0) tNil)) tNil))) (gName 3)
      (tIfS (tAnd (tTest (tOp rEq (tOp (rIxL K) (tVar 1) (tVar 2)) (tOp (rIxL K) (tVar 1) (tVar 3)))) (tTest (tOp xGt (tCB (rLenX K) (tCons (tLc (iList K (tOp (rIxL K) (tVar 0) (tVar 2))) (gName 4) (tTest (tOp (rIn K false) (tVar 4) (tOp (rIxL K) (tVar 0) (tVar 3)))) (tVar 4) [4]) tNil)) (tC (.int 0))))) (tRet (tTup (tCons (tVar 2) (tCons (tVar 3) tNil)))) tNext))))
    (tRet (tC .non))))
theorem pure_first_clash {v0 v1 : V} {H : Hp} {Q : VK} {E : XK} (h : pr_first_clash K v0 v1 H Q E) : t_first_clash K ⟨fun _ H' => Q .non H', Q, fun _ _ => False, fun _ _ => False⟩ [some v0, some v1, none, none, none] H := h.elim
abbrev sp_first_clash (K : PySem.W.Frag) : Sp := fun vs H Q E => ∃ v0 v1, vs = [v0, v1] ∧ pr_first_clash K v0 v1 H Q E
theorem ok_first_clash (T : Txt K mg A) : FnOk P w K mg base CX0 1 A.a_first_clash A.d_first_clash ["lain", "hues"] (sp_first_clash K) := by
  refine T.F_first_clash.ok sc_first_clash (fun vs H Q E h => by obtain ⟨v0, v1, rfl, _⟩ := h; rfl) (fun cdv A0 outer s H vs Q E hr h => ?_)
  obtain ⟨v0, v1, rfl, h⟩ := h
  exact ⟨t_first_clash K, (pss_cons (ps_if (pt_cmpR op_ne (pe_callB q_len (by rfl) T.z_len (by decide +kernel) (pa_cons (pv 1) pa_nil)) (pe_callB q_len (by rfl) T.z_len (by decide +kernel) (pa_cons (pv 0) pa_nil)) (nomark _)) (pss_one (ps_ret (pe_tup (pa_cons (pe_un un_neg pe_int) (pa_cons (pe_un un_neg pe_int) pa_nil))))) pss_nil)
      (pss_cons (ps_for PassesOwn.never rfl (pi_range1 (by rfl) T.z_range (pa_cons (pe_callB q_len (by rfl) T.z_len (by decide +kernel) (pa_cons (pv 0) pa_nil)) pa_nil)) (pg_name (i := 2) sc_first_clash.nd rfl (Or.inl rfl))
      (pss_cons (ps_if (pt_cmpR op_lt (pe_ix ix_list (pv 1) (pv 2) (fun _ _ => rfl)) pe_int (nomark _)) (pss_one (ps_ret (pe_tup (pa_cons (pv 2) (pa_cons (pv 2) pa_nil))))) pss_nil)
      (pss_one (ps_for PassesOwn.never rfl (pi_range2 (by rfl) T.z_range (pa_cons (pe_op op_add (pv 2) pe_int) (pa_cons (pe_callB q_len (by rfl) T.z_len (by decide +kernel) (pa_cons (pv 0) pa_nil)) pa_nil))) (pg_name (i := 3) sc_first_clash.nd rfl (Or.inr rfl))
      (pss_one (ps_if (PW.pt (pw_and (pt_cmpR op_eq (pe_ix ix_list (pv 1) (pv 2) (fun _ _ => rfl)) (pe_ix ix_list (pv 1) (pv 3) (fun _ _ => rfl)) (nomark _)) (pw_and1 (pt_cmpR op_gt (pe_callB q_len (by rfl) T.z_len (by decide +kernel) (pa_cons (pe_lc (own := [("tie", 4)]) (by rfl) sc_first_clash.nd (pi_list (pe_ix ix_list (pv 0) (pv 2) (fun _ _ => rfl))) (blkOk_by (own := [("tie", 4)]) (N := ["lain", "hues", "i", "j", "tie"]) (sc := defScope s_first_clash) (by decide +kernel)) (fun _ _ _ _ _ => (pg_name (i := 4) sc_first_clash.nd rfl (Or.inl rfl))) (fun _ _ _ _ _ => (pts_one (pt_cmpR op_in_seq (pv 4) (pe_ix ix_list (pv 0) (pv 3) (fun _ _ => rfl)) (by rfl)))) (fun _ _ _ _ _ => (pv 4))) pa_nil)) pe_int (nomark _))))) (pss_one (ps_ret (pe_tup (pa_cons (pv 2) (pa_cons (pv 3) pa_nil))))) pss_nil))))))
      (pss_one (ps_ret pe_non)))), pure_first_clash h⟩
def pr_are_right (K : PySem.W.Frag) (v0 v1 : V) (H : Hp) (Q : VK) (E : XK) : Prop := False
def t_are_right (K : PySem.W.Frag) : TS :=
  (tRet (tOp xIsN (tCall (sp_first_clash K) [] E0 (tCons (tLc (iList K (tOp (rIxT K) (tVar 0) (tC (.int 1)))) (gName 2) tYes (tCB (rListOf K) (tCons (tVar 2) tNil)) [2]) (tCons (tVar 1) tNil))) (tC .non)))
theorem pure_are_right {v0 v1 : V} {H : Hp} {Q : VK} {E : XK} (h : pr_are_right K v0 v1 H Q E) : t_are_right K ⟨fun _ H' => Q .non H', Q, fun _ _ => False, fun _ _ => False⟩ [some v0, some v1, none] H := h.elim
abbrev sp_are_right (K : PySem.W.Frag) : Sp := fun vs H Q E => ∃ v0 v1, vs = [v0, v1] ∧ pr_are_right K v0 v1 H Q E
theorem ok_are_right (T : Txt K mg A) : FnOk P w K mg base CX0 2 A.a_are_right A.d_are_right ["crossing", "hues"] (sp_are_right K) := by
  refine T.F_are_right.ok sc_are_right (fun vs H Q E h => by obtain ⟨v0, v1, rfl, _⟩ := h; rfl) (fun cdv A0 outer s H vs Q E hr h => ?_)
  obtain ⟨v0, v1, rfl, h⟩ := h
  exact ⟨t_are_right K, (pss_one (ps_ret (pe_cmpR op_isN (pe_call (ok_first_clash T) (hr.mono (by decide)) (by rfl) T.g_first_clash T.F_first_clash.kp T.b_first_clash .nil pass0 (pa_cons (pe_lc (own := [("pair", 2)]) (by rfl) sc_are_right.nd (pi_list (pe_ix ix_tup (pv 0) pe_int (fun _ _ => rfl))) (blkOk_by (own := [("pair", 2)]) (N := ["crossing", "hues", "pair"]) (sc := defScope s_are_right) (by decide +kernel)) (fun _ _ _ _ _ => (pg_name (i := 2) sc_are_right.nd rfl (Or.inl rfl))) (fun _ _ _ _ _ => pts_nil) (fun _ _ _ _ _ => (pe_callTy q_listOf (by rfl) T.z_list (by decide +kernel) (pa_cons (pv 2) pa_nil)))) (pa_cons (pv 1) pa_nil))) pe_non (nomark _)))), pure_are_right h⟩
def pr_ties_at (K : PySem.W.Frag) (v0 v1 : V) (H : Hp) (Q : VK) (E : XK) : Prop := False
def t_ties_at (K : PySem.W.Frag) : TS :=
  (tSeq (tAsg (tOp (rIxT K) (tVar 0) (tC (.int 1))) (gName 2))
    (tRet (tLc (iRng1 (tCons (tCB (rLenX K) (tCons (tVar 2) tNil)) tNil)) (gName 3) (tOr (tTest (tOp rEq (tOp xAdd (tVar 3) (tC (.int 1))) (tVar 1))) (tTest (tOp rEq (tOp (rIxL K) (tVar 2) (tVar 3)) (tVar 1)))) (tVar 3) [3])))
theorem pure_ties_at {v0 v1 : V} {H : Hp} {Q : VK} {E : XK} (h : pr_ties_at K v0 v1 H Q E) : t_ties_at K ⟨fun _ H' => Q .non H', Q, fun _ _ => False, fun _ _ => False⟩ [some v0, some v1, none, none] H := h.elim
abbrev sp_ties_at (K : PySem.W.Frag) : Sp := fun vs H Q E => ∃ v0 v1, vs = [v0, v1] ∧ pr_ties_at K v0 v1 H Q E
theorem ok_ties_at (T : Txt K mg A) : FnOk P w K mg base CX0 1 A.a_ties_at A.d_ties_at ["net", "place"] (sp_ties_at K) := by
  refine T.F_ties_at.ok sc_ties_at (fun vs H Q E h => by obtain ⟨v0, v1, rfl, _⟩ := h; rfl) (fun cdv A0 outer s H vs Q E hr h => ?_)
  obtain ⟨v0, v1, rfl, h⟩ := h
  exact ⟨t_ties_at K, (pss_cons (ps_set (i := 2) sc_ties_at.nd rfl (Or.inr rfl) (pe_ix ix_tup (pv 0) pe_int (fun _ _ => rfl)))
      (pss_one (ps_ret (pe_lc (own := [("k", 3)]) (by rfl) sc_ties_at.nd (pi_range1 (by rfl) T.z_range (pa_cons (pe_callB q_len (by rfl) T.z_len (by decide +kernel) (pa_cons (pv 2) pa_nil)) pa_nil)) (blkOk_by (own := [("k", 3)]) (N := ["net", "place", "parents", "k"]) (sc := defScope s_ties_at) (by decide +kernel)) (fun _ _ _ _ _ => (pg_name (i := 3) sc_ties_at.nd rfl (Or.inl rfl))) (fun _ _ _ _ _ => (pts_one (PW.pt (pw_or (pt_cmpR op_eq (pe_op op_add (pv 3) pe_int) (pv 1) (nomark _)) (pw_or1 (pt_cmpR op_eq (pe_ix ix_list (pv 2) (pv 3) (fun _ _ => rfl)) (pv 1) (nomark _))))))) (fun _ _ _ _ _ => (pv 3)))))), pure_ties_at h⟩
def pr_crossing_of (K : PySem.W.Frag) (v0 v1 v2 : V) (H : Hp) (Q : VK) (E : XK) : Prop := False
def t_crossing_of (K : PySem.W.Frag) : TS :=
  (tSeq (tAsg (tCall (sp_ties_at K) [] E0 (tCons (tVar 0) (tCons (tVar 2) tNil))) (gName 3))
    (tSeq (tAsg (tLst tNil) (gName 4))
    (tSeq (tAsg (tLst tNil) (gName 5))
    (tSeq (tFor (iRng1 (tCons (tCB (rLenX K) (tCons (tVar 1) tNil)) tNil)) (gName 6)
      (tSeq (tAsg (tLc (iList K (tCall (sp_ties_on K) [] E0 (tCons (tVar 0) (tCons (tOp (rIxL K) (tVar 1) (tVar 6)) tNil)))) (gName 8) (tTest (tOp (rIn K false) (tVar 8) (tVar 3))) (tBM K "list" (rIndex K) (tVar 3) (tCons (tVar 8) tNil)) [8]) (gName 7))
    (tIfS (tTest (tOp xGt (tCB (rLenX K) (tCons (tVar 7) tNil)) (tC (.int 0)))) (tSeq (tDrop (tBM K "list" rAppend (tVar 4) (tCons (tTup (tCons (tCB (rMin K) (tCons (tVar 7) tNil)) (tCons (tCB (rMax K) (tCons (tVar 7) tNil)) tNil))) tNil)))
    (tDrop (tBM K "list" rAppend (tVar 5) (tCons (tVar 6) tNil)))) tNext)))
    (tRet (tTup (tCons (tTup (tCons (tCB (rLenX K) (tCons (tVar 3) tNil)) (tCons (tVar 4) tNil))) (tCons (tVar 5) tNil))))))))
theorem pure_crossing_of {v0 v1 v2 : V} {H : Hp} {Q : VK} {E : XK} (h : pr_crossing_of K v0 v1 v2 H Q E) : t_crossing_of K ⟨fun _ H' => Q .non H', Q, fun _ _ => False, fun _ _ => False⟩ [some v0, some v1, some v2, none, none, none, none, none, none] H := h.elim
abbrev sp_crossing_of (K : PySem.W.Frag) : Sp := fun vs H Q E => ∃ v0 v1 v2, vs = [v0, v1, v2] ∧ pr_crossing_of K v0 v1 v2 H Q E
theorem ok_crossing_of (T : Txt K mg A) : FnOk P w K mg base CX0 2 A.a_crossing_of A.d_crossing_of ["net", "ways", "place"] (sp_crossing_of K) := by
  refine T.F_crossing_of.ok sc_crossing_of (fun vs H Q E h => by obtain ⟨v0, v1, v2, rfl, _⟩ := h; rfl) (fun cdv A0 outer s H vs Q E hr h => ?_)
  obtain ⟨v0, v1, v2, rfl, h⟩ := h
  exact ⟨t_crossing_of K, (pss_cons (ps_set (i := 3) sc_crossing_of.nd rfl (Or.inr rfl) (pe_call (ok_ties_at T) (hr.mono (by decide)) (by rfl) T.g_ties_at T.F_ties_at.kp T.b_ties_at .nil pass0 (pa_cons (pv 0) (pa_cons (pv 2) pa_nil))))
      (pss_cons (ps_set (i := 4) sc_crossing_of.nd rfl (Or.inl rfl) (pe_lst pa_nil))
      (pss_cons (ps_set (i := 5) sc_crossing_of.nd rfl (Or.inl rfl) (pe_lst pa_nil))
      (pss_cons (ps_for PassesOwn.never rfl (pi_range1 (by rfl) T.z_range (pa_cons (pe_callB q_len (by rfl) T.z_len (by decide +kernel) (pa_cons (pv 1) pa_nil)) pa_nil)) (pg_name (i := 6) sc_crossing_of.nd rfl (Or.inl rfl))
      (pss_cons (ps_setLc (i := 7) (own := [("tie", 8)]) (by rfl) sc_crossing_of.nd rfl rfl (sw_true rfl rfl rfl (by decide +kernel)) (pi_list (pe_call (ok_ties_on T) (hr.mono (by decide)) (by rfl) T.g_ties_on T.F_ties_on.kp T.b_ties_on .nil pass0 (pa_cons (pv 0) (pa_cons (pe_ix ix_list (pv 1) (pv 6) (fun _ _ => rfl)) pa_nil)))) (blkOk_by (own := [("tie", 8)]) (N := ["net", "ways", "place", "here", "pairs", "numbers", "k", "some", "tie"]) (sc := defScope s_crossing_of) (by decide +kernel)) (fun _ _ _ _ _ => (pg_name (i := 8) sc_crossing_of.nd rfl (Or.inl rfl))) (fun _ _ _ _ _ => (pts_one (pt_cmpR op_in_seq (pv 8) (pv 3) (by rfl)))) (fun _ _ _ _ _ => (pe_bm PySem.F.plainAttrs_list PySem.F.slot_list_index PySem.F.type_list_index mt_index (pv 3) (pa_cons (pv 8) pa_nil))))
      (pss_one (ps_if (pt_cmpR op_gt (pe_callB q_len (by rfl) T.z_len (by decide +kernel) (pa_cons (pv 7) pa_nil)) pe_int (nomark _)) (pss_cons (ps_expr (pe_bm PySem.F.plainAttrs_list PySem.F.slot_list_append PySem.F.type_list_append mt_append (pv 4) (pa_cons (pe_tup (pa_cons (pe_callB (cr_min (by rfl)) (by rfl) T.z_min (by decide +kernel) (pa_cons (pv 7) pa_nil)) (pa_cons (pe_callB (cr_max (by rfl)) (by rfl) T.z_max (by decide +kernel) (pa_cons (pv 7) pa_nil)) pa_nil))) pa_nil)))
      (pss_one (ps_expr (pe_bm PySem.F.plainAttrs_list PySem.F.slot_list_append PySem.F.type_list_append mt_append (pv 5) (pa_cons (pv 6) pa_nil))))) pss_nil))))
      (pss_one (ps_ret (pe_tup (pa_cons (pe_tup (pa_cons (pe_callB q_len (by rfl) T.z_len (by decide +kernel) (pa_cons (pv 3) pa_nil)) (pa_cons (pv 4) pa_nil))) (pa_cons (pv 5) pa_nil))))))))), pure_crossing_of h⟩
def pr_join_hues (K : PySem.W.Frag) (A : Ad) (v0 v1 v2 : V) (H : Hp) (Q : VK) (E : XK) : Prop := ∃ (ps : List Int) (b : Addr), Dp K H v0 (Net.tree ps).d ∧ TreeOk ps ∧ Dp K H v1 (dPairs []) ∧ v2 = .ref b ∧ H b = some (.lst []) ∧
  ∀ d, H d = none → E (.ref A.c_NoHues) (some d) (upd H d (.xd [(Str.ofString "place", .int ((ps.length : Int) + 1))]))
def t_join_hues (K : PySem.W.Frag) (A : Ad) (E : XK) : TS :=
  (tSeq (tDrop (tCall (sp_must_be_kind K A) [] E (tCons (tVar 0) (tCons (tC (.str (Str.ofString "tree"))) tNil))))
    (tSeq (tDrop (tCall (sp_must_be_ways K A) [] E (tCons (tVar 0) (tCons (tVar 1) tNil))))
    (tSeq (tFor (iRng1 (tCons (tCB rMin2 (tCons (tCB (rLenX K) (tCons (tVar 2) tNil)) (tCons (tCall (sp_places_of K) [] E0 (tCons (tVar 0) tNil)) tNil))) tNil)) (gName 3)
      (tIfS (tNot (tB (tCall (sp_are_right K) [] E0 (tCons (tOp (rIxT K) (tCall (sp_crossing_of K) [] E0 (tCons (tVar 0) (tCons (tVar 1) (tCons (tVar 3) tNil)))) (tC (.int 0))) (tCons (tOp (rIxL K) (tVar 2) (tVar 3)) tNil))))) (tRaiseO A.c_NoHues (spInit A.c_NoHues (Str.ofString "place")) (tCons (tVar 3) tNil) E) tNext))
    (tSeq (tIfS (tTest (tOp rNe (tCB (rLenX K) (tCons (tVar 2) tNil)) (tCall (sp_places_of K) [] E0 (tCons (tVar 0) tNil)))) (tRaiseO A.c_NoHues (spInit A.c_NoHues (Str.ofString "place")) (tCons (tCall (sp_places_of K) [] E0 (tCons (tVar 0) tNil)) tNil) E) tNext)
    tNever))))
theorem pure_join_hues {v0 v1 v2 : V} {H : Hp} {Q : VK} {E : XK} (h : pr_join_hues K A v0 v1 v2 H Q E) : t_join_hues K A E ⟨fun _ H' => Q .non H', Q, fun _ _ => False, fun _ _ => False⟩ [some v0, some v1, some v2, none] H := by
  obtain ⟨ps, b, d0, T, d1, rfl, hb, qe⟩ := h
  have lps : ps.length < 60 := T.2.1
  unfold t_join_hues
  wtm_at "s"
  refine ⟨_, _, rfl, (Net.tree ps).a, _, rfl, d0, a_lens (N := .tree ps) T, .inr (.inr ⟨.tree ps, rfl, T, rfl, ?_⟩)⟩
  wtm_at "s"
  refine ⟨_, _, rfl, .tree ps, [], d0, d1, by decide, fun _ => ?_, fun i fb => absurd fb (no_bad (by simp))⟩
  wtm_at "s"
  refine ⟨_, rfl, .tree ps, d0, ?_⟩
  rw [show Net.places (.tree ps) = (ps.length : Int) + 1 from rfl]
  wtm_at "s"
  rw [if_neg (show ¬ (ps.length : Int) + 1 < 0 by omega)]
  refine forR (fun i σ' H' => i = 0 ∧ H' = H ∧ σ' = [some v0, some v1, some (.ref b), none]) ⟨rfl, rfl, rfl⟩ ?_ ?_
  · rintro k σ' G hk _
    simp at hk
  · rintro σ' G ⟨_, rfl, rfl⟩
    wtm_at "s"
    refine ⟨_, rfl, .tree ps, d0, ?_⟩
    rw [show Net.places (.tree ps) = (ps.length : Int) + 1 from rfl]
    wtm_at "s"
    refine k_raiseO (v := .int ((ps.length : Int) + 1)) (fun R hR => ?_) (fun d nd => qe d nd)
    wtm_at "s"
    refine ⟨_, rfl, .tree ps, d0, ?_⟩
    rw [show Net.places (.tree ps) = (ps.length : Int) + 1 from rfl]
    wtm_at "s"
    exact hR
abbrev sp_join_hues (K : PySem.W.Frag) (A : Ad) : Sp := fun vs H Q E => ∃ v0 v1 v2, vs = [v0, v1, v2] ∧ pr_join_hues K A v0 v1 v2 H Q E
theorem ok_join_hues (T : Txt K mg A) : FnOk P w K mg base (L2.CX P w) 5 A.a_join_hues A.d_join_hues ["net", "ways", "lists"] (sp_join_hues K A) := by
  refine T.F_join_hues.okX sc_join_hues (fun vs H Q E h => by obtain ⟨v0, v1, v2, rfl, _⟩ := h; rfl) (fun cdv A0 outer s H vs Q E hr h => ?_)
  obtain ⟨v0, v1, v2, rfl, h⟩ := h
  exact ⟨t_join_hues K A E, (pss_cons (ps_expr (pe_call (E := E) (ok_must_be_kind T) (hr.mono (by decide)) (by rfl) T.g_must_be_kind T.F_must_be_kind.kp T.b_must_be_kind .nil (passes_call (takes_of rfl rfl rfl rfl) (fun _ _ _ _ h => h)) (pa_cons (pv 0) (pa_cons pe_str pa_nil))))
      (pss_cons (ps_expr (pe_call (E := E) (ok_must_be_ways T) (hr.mono (by decide)) (by rfl) T.g_must_be_ways T.F_must_be_ways.kp T.b_must_be_ways .nil (passes_call (takes_of rfl rfl rfl rfl) (fun _ _ _ _ h => h)) (pa_cons (pv 0) (pa_cons (pv 1) pa_nil))))
      (pss_cons (ps_for (passes_of rfl) rfl (pi_range1 (by rfl) T.z_range (pa_cons (pe_callB (q_min2 (by rfl)) (by rfl) T.z_min (by decide +kernel) (pa_cons (pe_callB q_len (by rfl) T.z_len (by decide +kernel) (pa_cons (pv 2) pa_nil)) (pa_cons (pe_call (ok_places_of T) (hr.mono (by decide)) (by rfl) T.g_places_of T.F_places_of.kp T.b_places_of .nil pass0 (pa_cons (pv 0) pa_nil)) pa_nil))) pa_nil)) (pg_name (i := 3) sc_join_hues.nd rfl (Or.inl rfl))
      (pss_one (ps_if (pt_not (pt_val (pe_call (ok_are_right T) (hr.mono (by decide)) (by rfl) T.g_are_right T.F_are_right.kp T.b_are_right .nil pass0 (pa_cons (pe_ix ix_tup (pe_call (ok_crossing_of T) (hr.mono (by decide)) (by rfl) T.g_crossing_of T.F_crossing_of.kp T.b_crossing_of .nil pass0 (pa_cons (pv 0) (pa_cons (pv 1) (pa_cons (pv 3) pa_nil)))) pe_int (fun _ _ => rfl)) (pa_cons (pe_ix ix_list (pv 2) (pv 3) (fun _ _ => rfl)) pa_nil))))) (pss_one (ps_raise rfl (takes_of rfl rfl rfl rfl) (pmk_oex T.o_NoHues T.in_NoHues T.ti_NoHues (ok_init_NoHues T) (hr.mono (by decide)) T.bi_NoHues .nil pass0 (by rfl) T.k_NoHues (pa_cons (pv 3) pa_nil)))) pss_nil)))
      (pss_cons (ps_if (pt_cmpR op_ne (pe_callB q_len (by rfl) T.z_len (by decide +kernel) (pa_cons (pv 2) pa_nil)) (pe_call (ok_places_of T) (hr.mono (by decide)) (by rfl) T.g_places_of T.F_places_of.kp T.b_places_of .nil pass0 (pa_cons (pv 0) pa_nil)) (nomark _)) (pss_one (ps_raise rfl (takes_of rfl rfl rfl rfl) (pmk_oex T.o_NoHues T.in_NoHues T.ti_NoHues (ok_init_NoHues T) (hr.mono (by decide)) T.bi_NoHues .nil pass0 (by rfl) T.k_NoHues (pa_cons (pe_call (ok_places_of T) (hr.mono (by decide)) (by rfl) T.g_places_of T.F_places_of.kp T.b_places_of .nil pass0 (pa_cons (pv 0) pa_nil)) pa_nil)))) pss_nil)
      (pss_one ps_never))))), pure_join_hues h⟩
def pr_crossing_at (K : PySem.W.Frag) (A : Ad) (v0 v1 v2 : V) (H : Hp) (Q : VK) (E : XK) : Prop := ∃ (ps : List Int) (x : Int), v2 = .int x ∧ Dp K H v0 (Net.tree ps).d ∧ TreeOk ps ∧ Dp K H v1 (dPairs []) ∧ (ps.length : Int) < x ∧ E (.ref A.c_NoPlace) none H
def t_crossing_at (K : PySem.W.Frag) (A : Ad) (E : XK) : TS :=
  (tSeq (tDrop (tCall (sp_must_be_kind K A) [] E (tCons (tVar 0) (tCons (tC (.str (Str.ofString "tree"))) tNil))))
    (tSeq (tDrop (tCall (sp_must_be_ways K A) [] E (tCons (tVar 0) (tCons (tVar 1) tNil))))
    (tSeq (tIfS (tOr (tTest (tOp xLt (tVar 2) (tC (.int 0)))) (tTest (tOp xGe (tVar 2) (tCall (sp_places_of K) [] E0 (tCons (tVar 0) tNil))))) (tRaiseP A.c_NoPlace E) tNext)
    tNever)))
theorem pure_crossing_at {v0 v1 v2 : V} {H : Hp} {Q : VK} {E : XK} (h : pr_crossing_at K A v0 v1 v2 H Q E) : t_crossing_at K A E ⟨fun _ H' => Q .non H', Q, fun _ _ => False, fun _ _ => False⟩ [some v0, some v1, some v2] H := by
  obtain ⟨ps, x, rfl, d0, T, d1, hx, q⟩ := h
  unfold t_crossing_at
  wtm_at "s"
  refine ⟨_, _, rfl, (Net.tree ps).a, _, rfl, d0, a_lens (N := .tree ps) T, .inr (.inr ⟨.tree ps, rfl, T, rfl, ?_⟩)⟩
  wtm_at "s"
  refine ⟨_, _, rfl, .tree ps, [], d0, d1, by decide, fun _ => ?_, fun i fb => absurd fb (no_bad (by simp))⟩
  wtm_at "s"
  refine ⟨_, rfl, .tree ps, d0, ?_⟩
  rw [show Net.places (.tree ps) = (ps.length : Int) + 1 from rfl]
  wtm_at "s"
  exact q
abbrev sp_crossing_at (K : PySem.W.Frag) (A : Ad) : Sp := fun vs H Q E => ∃ v0 v1 v2, vs = [v0, v1, v2] ∧ pr_crossing_at K A v0 v1 v2 H Q E
theorem ok_crossing_at (T : Txt K mg A) : FnOk P w K mg base (L2.CX P w) 5 A.a_crossing_at A.d_crossing_at ["net", "ways", "place"] (sp_crossing_at K A) := by
  refine T.F_crossing_at.okX sc_crossing_at (fun vs H Q E h => by obtain ⟨v0, v1, v2, rfl, _⟩ := h; rfl) (fun cdv A0 outer s H vs Q E hr h => ?_)
  obtain ⟨v0, v1, v2, rfl, h⟩ := h
  exact ⟨t_crossing_at K A E, (pss_cons (ps_expr (pe_call (E := E) (ok_must_be_kind T) (hr.mono (by decide)) (by rfl) T.g_must_be_kind T.F_must_be_kind.kp T.b_must_be_kind .nil (passes_call (takes_of rfl rfl rfl rfl) (fun _ _ _ _ h => h)) (pa_cons (pv 0) (pa_cons pe_str pa_nil))))
      (pss_cons (ps_expr (pe_call (E := E) (ok_must_be_ways T) (hr.mono (by decide)) (by rfl) T.g_must_be_ways T.F_must_be_ways.kp T.b_must_be_ways .nil (passes_call (takes_of rfl rfl rfl rfl) (fun _ _ _ _ h => h)) (pa_cons (pv 0) (pa_cons (pv 1) pa_nil))))
      (pss_cons (ps_if (PW.pt (pw_or (pt_cmpR op_lt (pv 2) pe_int (nomark _)) (pw_or1 (pt_cmpR op_ge (pv 2) (pe_call (ok_places_of T) (hr.mono (by decide)) (by rfl) T.g_places_of T.F_places_of.kp T.b_places_of .nil pass0 (pa_cons (pv 0) pa_nil)) (nomark _))))) (pss_one (ps_raise rfl (takes_of rfl rfl rfl rfl) (pmk_own PySem.F.excBase_ValueError T.e_NoPlace T.k_NoPlace T.p_NoPlace (raises_own T.x_NoPlace.hs T.t_NoPlace) (by rfl)))) pss_nil)
      (pss_one ps_never)))), pure_crossing_at h⟩

/-! ### rows of ties of a line -/
def onI (w : Int × Int) (t : Int) : Prop := w.1 ≤ t ∧ t ≤ w.2
instance (w : Int × Int) (t : Int) : Decidable (onI w t) := inferInstanceAs (Decidable (w.1 ≤ t ∧ t ≤ w.2))
def tieW (w : Int × Int) : Int × Int := (min w.1 w.2, max w.1 w.2 - 1)
theorem tieW_ok {n a b : Int} (h : isWay (.line n) a b) : 0 ≤ (tieW (a, b)).1 ∧ (tieW (a, b)).1 ≤ (tieW (a, b)).2 ∧ (tieW (a, b)).2 < n - 1 := by
  obtain ⟨h1, h2, h3, h4, h5⟩ := h
  have h4' : a < n := h4
  have h5' : b < n := h5
  unfold tieW
  simp only
  omega
/-- a row of ties lo .. hi -/
def tiesI (w : Int × Int) : List Int := (List.range (w.2 - w.1 + 1).toNat).map fun k : Nat => w.1 + (k : Int)
theorem tiesI_len (w : Int × Int) : (tiesI w).length = (w.2 - w.1 + 1).toNat := by unfold tiesI; simp
theorem tiesI_get {w : Int × Int} {k : Nat} (h : (k : Int) ≤ w.2 - w.1) : (tiesI w)[k]? = some (w.1 + (k : Int)) := by
  unfold tiesI
  rw [List.getElem?_map, List.getElem?_range (by omega)]; rfl
theorem tiesI_mem {w : Int × Int} {t : Int} : t ∈ tiesI w ↔ w.1 ≤ t ∧ t ≤ w.2 := by
  unfold tiesI
  rw [List.mem_map]
  constructor
  · rintro ⟨k, hk, rfl⟩
    have := List.mem_range.mp hk
    omega
  · rintro ⟨h1, h2⟩
    exact ⟨(t - w.1).toNat, List.mem_range.mpr (by omega), by omega⟩
theorem at_first {w : Int × Int} (h : w.1 ≤ w.2) : atI ((tiesI w).map V.int) 0 = some (.int w.1) := by
  have := at_int (ns := tiesI w) (i := 0) (by decide) (by rw [tiesI_len]; omega)
  rw [this]
  have g : (tiesI w)[(0 : Nat)]? = some (w.1 + ((0 : Nat) : Int)) := tiesI_get (by omega)
  show some (V.int ((tiesI w).getD 0 0)) = _
  rw [List.getD_eq_getElem?_getD, g]; simp
theorem at_final {w : Int × Int} (h : w.1 ≤ w.2) : atI ((tiesI w).map V.int) (-1) = some (.int w.2) := by
  have g : (tiesI w)[(w.2 - w.1).toNat]? = some (w.1 + ((w.2 - w.1).toNat : Int)) := tiesI_get (by omega)
  have e : w.1 + ((w.2 - w.1).toNat : Int) = w.2 := by omega
  rw [e] at g
  unfold atI
  rw [ixN_last (by rw [List.length_map, tiesI_len]; omega)]
  show ((tiesI w).map V.int)[((tiesI w).map V.int).length - 1]? = _
  rw [List.length_map, tiesI_len, show (w.2 - w.1 + 1).toNat - 1 = (w.2 - w.1).toNat by omega, List.getElem?_map, g]; rfl
/-! ### ways as they come: levels, own ties, three hues to a level -/
abbrev Ent := (Int × Int) × Nat
def pUp (t : Int) (i : Nat) (e : Ent) : Bool := decide (e.2 ≤ i) && (decide (e.1.1 ≤ t) && decide (t ≤ e.1.2))
def upto (es : List Ent) (t : Int) (i : Nat) : Nat := es.countP (pUp t i)
def LevelOf (es : List Ent) (w : Int × Int) (i : Nat) : Prop := 1 ≤ i ∧ (∀ t, onI w t → upto es t i < i) ∧ ∀ j, 1 ≤ j → j < i → ∃ t, onI w t ∧ j ≤ upto es t j
def GoodE (es : List Ent) : Prop := ∀ n w i, es[n]? = some (w, i) → w.1 ≤ w.2 ∧ LevelOf (es.take n) w i
theorem pUp_on {t : Int} {i : Nat} {e : Ent} : pUp t i e = true ↔ e.2 ≤ i ∧ onI e.1 t := by
  unfold pUp onI
  simp [Bool.and_eq_true, decide_eq_true_eq]
theorem upto_take {es : List Ent} {t : Int} {i n m : Nat} (h : n ≤ m) : upto (es.take n) t i ≤ upto (es.take m) t i := by
  have : es.take n = (es.take m).take n := by rw [List.take_take, Nat.min_eq_left h]
  rw [this]
  exact (List.take_sublist n (es.take m)).countP_le
theorem upto_lev {es : List Ent} {t : Int} {i j : Nat} (h : i ≤ j) : upto es t i ≤ upto es t j := List.countP_mono_left fun e _ he => by
  rw [pUp_on] at he ⊢
  exact ⟨by omega, he.2⟩
theorem upto_zero {es : List Ent} {t : Int} (h : ∀ e ∈ es, 1 ≤ e.2) : upto es t 0 = 0 := by
  unfold upto
  rw [List.countP_eq_zero]
  intro e he z
  have := h e he
  rw [pUp_on] at z
  omega
theorem take_at {α : Type} {es : List α} {k : Nat} {e : α} (h : es[k]? = some e) : es.take (k + 1) = es.take k ++ [e] := by
  rw [List.take_add_one, h]; rfl
theorem upto_next {es : List Ent} {t : Int} {i k m : Nat} {e : Ent} (h : es[k]? = some e) (hk : k < m) (hp : pUp t i e = true) : upto (es.take k) t i + 1 ≤ upto (es.take m) t i := by
  refine Nat.le_trans ?_ (upto_take (n := k + 1) hk)
  rw [take_at h]
  unfold upto
  rw [List.countP_append]
  simp [hp]
theorem upto_step {es : List Ent} {t : Int} {i k : Nat} {e : Ent} (h : es[k]? = some e) (hi : e.2 = i) (i1 : 1 ≤ i) (ht : onI e.1 t) : upto es t (i - 1) + 1 ≤ upto es t i := by
  obtain ⟨h1, h2⟩ := List.getElem?_eq_some_iff.mp h
  have sp : es = es.take k ++ e :: es.drop (k + 1) := by
    rw [← h2, ← List.drop_eq_getElem_cons h1, List.take_append_drop]
  have a := upto_lev (es := es.take k) (t := t) (i := i - 1) (j := i) (by omega)
  have b := upto_lev (es := es.drop (k + 1)) (t := t) (i := i - 1) (j := i) (by omega)
  have c : pUp t i e = true := pUp_on.mpr ⟨by omega, ht⟩
  have d : pUp t (i - 1) e = false := by
    cases hh : pUp t (i - 1) e with
    | false => rfl
    | true => have := (pUp_on.mp hh).1; omega
  rw [sp]
  unfold upto at a b ⊢
  rw [List.countP_append, List.countP_append, List.countP_cons, List.countP_cons, c, d]
  simp only [if_true, Bool.false_eq_true, if_false]
  omega
theorem good_pos {es : List Ent} (g : GoodE es) : ∀ e ∈ es, 1 ≤ e.2 := fun e he => by
  obtain ⟨k, hk, h⟩ := List.getElem_of_mem he
  exact (g k e.1 e.2 (by rw [List.getElem?_eq_getElem hk, h])).2.1
theorem good_take {es : List Ent} (g : GoodE es) (n : Nat) : GoodE (es.take n) := fun k w i h => by
  rw [List.getElem?_take] at h
  split at h
  · have := g k w i h
    rw [List.take_take, Nat.min_eq_left (by omega)]
    exact this
  · cases h
/-- a way's own tie: no other way of its level lies on it -/
theorem own_is {es : List Ent} (g : GoodE es) {n i : Nat} {w : Int × Int} (h : es[n]? = some (w, i)) {t : Int} (ht : onI w t) (hu : i - 1 ≤ upto (es.take n) t (i - 1)) : ∀ m e, es[m]? = some e → m ≠ n → e.2 = i → ¬ onI e.1 t := by
  obtain ⟨_, l1, l2, _⟩ := g n w i h
  intro m e hm ne he on
  have u1 := l2 t ht
  by_cases c : m < n
  · have hm' : (es.take n)[m]? = some e := by rw [List.getElem?_take, if_pos c]; exact hm
    have := upto_step hm' he l1 on
    omega
  · have u2 := upto_lev (es := es.take n) (t := t) (i := i - 1) (j := i) (by omega)
    have u3 := upto_next (t := t) (i := i) h (show n < m by omega) (pUp_on.mpr ⟨Nat.le_refl _, ht⟩)
    obtain ⟨ew, ei⟩ := e
    have he' : ei = i := he
    subst he'
    obtain ⟨_, _, l2', _⟩ := g m ew ei hm
    have := l2' t on
    omega
theorem own_ex {es : List Ent} (g : GoodE es) {n i : Nat} {w : Int × Int} (h : es[n]? = some (w, i)) : ∃ t, onI w t ∧ i - 1 ≤ upto (es.take n) t (i - 1) := by
  obtain ⟨hw, l1, l2, l3⟩ := g n w i h
  by_cases c : i = 1
  · subst c
    exact ⟨w.1, ⟨by omega, hw⟩, Nat.zero_le _⟩
  · obtain ⟨t, h1, h2⟩ := l3 (i - 1) (by omega) (by omega)
    exact ⟨t, h1, h2⟩
def meetI (w v : Int × Int) : Prop := max w.1 v.1 ≤ min w.2 v.2
/-- of three ways of one level no two lie to the same side of a third one that they meet -/
theorem one_side {es : List Ent} (g : GoodE es) {n a b i : Nat} {w x y : Int × Int} {t : Int} (hn : es[n]? = some (w, i)) (ha : es[a]? = some (x, i)) (hb : es[b]? = some (y, i)) (an : a ≠ n) (bn : b ≠ n) (ht : onI w t) (hu : i - 1 ≤ upto (es.take n) t (i - 1))
    (ma : meetI x w) (mb : meetI y w) (side : (x.2 < t ∧ y.2 < t) ∨ (t < x.1 ∧ t < y.1)) : a = b := by
  refine Classical.byContradiction fun ne => ?_
  obtain ⟨p, p1, p2⟩ := own_ex g ha
  obtain ⟨q, q1, q2⟩ := own_ex g hb
  have pw := own_is g ha p1 p2 n _ hn (fun z => an z.symm) rfl
  have py := own_is g ha p1 p2 b _ hb (fun z => ne z.symm) rfl
  have qw := own_is g hb q1 q2 n _ hn (fun z => bn z.symm) rfl
  have qx := own_is g hb q1 q2 a _ ha ne rfl
  unfold onI at p1 q1 pw py qw qx ht
  unfold meetI at ma mb
  simp only at pw py qw qx
  rcases side with ⟨s1, s2⟩ | ⟨s1, s2⟩ <;> omega
theorem side_of {es : List Ent} (g : GoodE es) {n a i : Nat} {w x : Int × Int} {t : Int} (hn : es[n]? = some (w, i)) (ha : es[a]? = some (x, i)) (an : a ≠ n) (ht : onI w t) (hu : i - 1 ≤ upto (es.take n) t (i - 1)) : x.2 < t ∨ t < x.1 := by
  have := own_is g hn ht hu a _ ha an rfl
  unfold onI at this
  simp only at this
  omega
/-- no three ways of its level meet a way -/
theorem no_three {es : List Ent} (g : GoodE es) {n a b c i : Nat} {w x y z : Int × Int} (hn : es[n]? = some (w, i)) (ha : es[a]? = some (x, i)) (hb : es[b]? = some (y, i)) (hc : es[c]? = some (z, i)) (an : a ≠ n) (bn : b ≠ n) (cn : c ≠ n)
    (ma : meetI x w) (mb : meetI y w) (mc : meetI z w) (ab : a ≠ b) (ac : a ≠ c) (bc : b ≠ c) : False := by
  obtain ⟨t, ht, hu⟩ := own_ex g hn
  rcases side_of g hn ha an ht hu with s1 | s1 <;> rcases side_of g hn hb bn ht hu with s2 | s2 <;> rcases side_of g hn hc cn ht hu with s3 | s3
  · exact ab (one_side g hn ha hb an bn ht hu ma mb (.inl ⟨s1, s2⟩))
  · exact ab (one_side g hn ha hb an bn ht hu ma mb (.inl ⟨s1, s2⟩))
  · exact ac (one_side g hn ha hc an cn ht hu ma mc (.inl ⟨s1, s3⟩))
  · exact bc (one_side g hn hb hc bn cn ht hu mb mc (.inr ⟨s2, s3⟩))
  · exact bc (one_side g hn hb hc bn cn ht hu mb mc (.inl ⟨s2, s3⟩))
  · exact ac (one_side g hn ha hc an cn ht hu ma mc (.inr ⟨s1, s3⟩))
  · exact ab (one_side g hn ha hb an bn ht hu ma mb (.inr ⟨s1, s2⟩))
  · exact ab (one_side g hn ha hb an bn ht hu ma mb (.inr ⟨s1, s2⟩))
/-- a way of level one meets no other one -/
theorem one_alone {es : List Ent} (g : GoodE es) {n a : Nat} {w x : Int × Int} (hn : es[n]? = some (w, 1)) (ha : es[a]? = some (x, 1)) (an : a < n) (ma : meetI x w) : False := by
  obtain ⟨hw, _, l2, _⟩ := g n w 1 hn
  obtain ⟨hx, _⟩ := g a x 1 ha
  unfold meetI at ma
  have on1 : onI w (max x.1 w.1) := ⟨by omega, by omega⟩
  have on2 : onI x (max x.1 w.1) := ⟨by omega, by omega⟩
  have := upto_next (t := max x.1 w.1) (i := 1) ha an (pUp_on.mpr ⟨Nat.le_refl _, on2⟩)
  have := l2 _ on1
  omega
/-- a level is told: at the worst one more than there are ways -/
theorem level_ex (es : List Ent) (w : Int × Int) : ∃ i, i ≤ es.length + 1 ∧ LevelOf es w i := by
  have ex : ∃ i, 1 ≤ i ∧ ∀ t, onI w t → upto es t i < i := ⟨es.length + 1, by omega, fun t _ => by
    have : upto es t (es.length + 1) ≤ es.length := List.countP_le_length
    omega⟩
  have key : ∀ n, (∃ i, i ≤ n ∧ 1 ≤ i ∧ ∀ t, onI w t → upto es t i < i) → ∃ i, i ≤ n ∧ LevelOf es w i := by
    intro n
    induction n with
    | zero => rintro ⟨i, h1, h2, _⟩; omega
    | succ n ih =>
      rintro ⟨i, h1, h2, h3⟩
      by_cases c : ∃ i, i ≤ n ∧ 1 ≤ i ∧ ∀ t, onI w t → upto es t i < i
      · obtain ⟨i, h, l⟩ := ih c
        exact ⟨i, by omega, l⟩
      · refine ⟨i, h1, h2, h3, fun j j1 ji => Classical.byContradiction fun z => c ⟨j, by omega, j1, fun t ht => ?_⟩⟩
        by_cases d : upto es t j < j
        · exact d
        · exact absurd ⟨t, ht, by omega⟩ z
  refine key (es.length + 1) ⟨es.length + 1, Nat.le_refl _, by omega, fun t _ => ?_⟩
  have : upto es t (es.length + 1) ≤ es.length := List.countP_le_length
  omega
theorem level_one {es : List Ent} {w : Int × Int} {i j : Nat} (h : LevelOf es w i) (h' : LevelOf es w j) : i = j := by
  obtain ⟨a1, a2, a3⟩ := h
  obtain ⟨b1, b2, b3⟩ := h'
  rcases Nat.lt_trichotomy i j with c | c | c
  · obtain ⟨t, t1, t2⟩ := b3 i a1 c
    have := a2 t t1
    omega
  · exact c
  · obtain ⟨t, t1, t2⟩ := a3 j b1 c
    have := b2 t t1
    omega
theorem good_more {es : List Ent} {w : Int × Int} {i : Nat} (g : GoodE es) (hw : w.1 ≤ w.2) (l : LevelOf es w i) : GoodE (es ++ [(w, i)]) := fun n v j h => by
  by_cases c : n < es.length
  · rw [List.getElem?_append_left c] at h
    rw [List.take_append_of_le_length (by omega)]
    exact g n v j h
  · have hn : n = es.length := by
      have := (List.getElem?_eq_some_iff.mp h).1
      simp at this
      omega
    subst hn
    rw [List.getElem?_append_right (Nat.le_refl _)] at h
    simp at h
    obtain ⟨rfl, rfl⟩ := h
    rw [List.take_left]
    exact ⟨hw, l⟩
/-- no level is greater than the load at its own tie -/
theorem level_load {es : List Ent} (g : GoodE es) {n i : Nat} {w : Int × Int} (h : es[n]? = some (w, i)) : ∃ t, onI w t ∧ i ≤ es.countP fun e => decide (e.1.1 ≤ t) && decide (t ≤ e.1.2) := by
  obtain ⟨t, h1, h2⟩ := own_ex g h
  obtain ⟨_, l1, _⟩ := g n w i h
  refine ⟨t, h1, ?_⟩
  have u2 := upto_lev (es := es.take n) (t := t) (i := i - 1) (j := i) (by omega)
  have u3 := upto_next (t := t) (i := i) h (show n < n + 1 by omega) (pUp_on.mpr ⟨Nat.le_refl _, h1⟩)
  have u4 : upto (es.take (n + 1)) t i ≤ upto es t i := (List.take_sublist _ es).countP_le
  have u5 : upto es t i ≤ es.countP fun e => decide (e.1.1 ≤ t) && decide (t ≤ e.1.2) := List.countP_mono_left fun e _ he => by
    have := (pUp_on.mp he).2
    unfold onI at this
    simp [this.1, this.2]
  omega


def lvHues (i : Nat) : List Int := if i = 1 then [0] else [3 * (i : Int) - 5, 3 * (i : Int) - 4, 3 * (i : Int) - 3]
def pr_hues_of (K : PySem.W.Frag) (v0 : V) (H : Hp) (Q : VK) (_ : XK) : Prop := ∃ i : Nat, v0 = .int i ∧ 1 ≤ i ∧ ∀ p H', H p = none → Same H H' → H' p = some (.lst (List.map V.int (lvHues i))) → Q (.ref p) H'
def t_hues_of (K : PySem.W.Frag) : TS :=
  (tSeq (tIfS (tTest (tOp rEq (tVar 0) (tC (.int 1)))) (tRet (tLst (tCons (tC (.int 0)) tNil))) tNext)
    (tRet (tLst (tCons (tOp xSub (tOp xMul (tC (.int 3)) (tVar 0)) (tC (.int 5))) (tCons (tOp xSub (tOp xMul (tC (.int 3)) (tVar 0)) (tC (.int 4))) (tCons (tOp xSub (tOp xMul (tC (.int 3)) (tVar 0)) (tC (.int 3))) tNil))))))
theorem pure_hues_of {v0 : V} {H : Hp} {Q : VK} {E : XK} (h : pr_hues_of K v0 H Q E) : t_hues_of K ⟨fun _ H' => Q .non H', Q, fun _ _ => False, fun _ _ => False⟩ [some v0] H := by
  obtain ⟨i, rfl, i1, q⟩ := h
  unfold t_hues_of
  wtm_at "s"
  refine k_it (fun c => ?_) (fun c => ?_)
  · wtm_at "s"
    refine kL (by simp) (fun p H1 np s1 e1 => ?_)
    refine q p H1 np s1 ?_
    rw [e1]; unfold lvHues; rw [if_pos (by omega)]; rfl
  · wtm_at "s"
    refine kL (by simp) (fun p H1 np s1 e1 => ?_)
    refine q p H1 np s1 ?_
    rw [e1]; unfold lvHues; rw [if_neg (by omega)]; rfl
abbrev sp_hues_of (K : PySem.W.Frag) : Sp := fun vs H Q E => ∃ v0, vs = [v0] ∧ pr_hues_of K v0 H Q E
theorem ok_hues_of (T : Txt K mg A) : FnOk P w K mg base CX0 1 A.a_hues_of A.d_hues_of ["level"] (sp_hues_of K) := by
  refine T.F_hues_of.ok sc_hues_of (fun vs H Q E h => by obtain ⟨v0, rfl, _⟩ := h; rfl) (fun cdv A0 outer s H vs Q E hr h => ?_)
  obtain ⟨v0, rfl, h⟩ := h
  exact ⟨t_hues_of K, (pss_cons (ps_if (pt_cmpR op_eq (pv 0) pe_int (nomark _)) (pss_one (ps_ret (pe_lst (pa_cons pe_int pa_nil)))) pss_nil)
      (pss_one (ps_ret (pe_lst (pa_cons (pe_op op_sub (pe_op op_mul pe_int (pv 0)) pe_int) (pa_cons (pe_op op_sub (pe_op op_mul pe_int (pv 0)) pe_int) (pa_cons (pe_op op_sub (pe_op op_mul pe_int (pv 0)) pe_int) pa_nil))))))), pure_hues_of h⟩
def pr_meet (K : PySem.W.Frag) (v0 v1 : V) (H : Hp) (Q : VK) (_ : XK) : Prop := ∃ (p q : Addr) (w v : Int × Int), v0 = .ref p ∧ v1 = .ref q ∧ SqL K H p ((tiesI w).map V.int) ∧ SqL K H q ((tiesI v).map V.int) ∧ w.1 ≤ w.2 ∧ v.1 ≤ v.2 ∧ Q (.bl (decide (max w.1 v.1 ≤ min w.2 v.2))) H
def t_meet (K : PySem.W.Frag) : TS :=
  (tRet (tOp xLe (tCB rMax2 (tCons (tOp (rIxL K) (tVar 0) (tC (.int 0))) (tCons (tOp (rIxL K) (tVar 1) (tC (.int 0))) tNil))) (tCB rMin2 (tCons (tOp (rIxL K) (tVar 0) (tUn xNeg (tC (.int 1)))) (tCons (tOp (rIxL K) (tVar 1) (tUn xNeg (tC (.int 1)))) tNil)))))
theorem pure_meet {v0 v1 : V} {H : Hp} {Q : VK} {E : XK} (h : pr_meet K v0 v1 H Q E) : t_meet K ⟨fun _ H' => Q .non H', Q, fun _ _ => False, fun _ _ => False⟩ [some v0, some v1] H := by
  obtain ⟨p, q, w, v, rfl, rfl, hp, hq, hw, hv, k⟩ := h
  unfold t_meet
  wtm_at "s"
  refine k_ixL hp (at_first hw) ?_
  wtm_at "s"
  refine k_ixL hq (at_first hv) ?_
  wtm_at "s"
  refine k_ixL hp (at_final hw) ?_
  wtm_at "s"
  refine k_ixL hq (at_final hv) ?_
  wtm_at "s"
  have e : decide ((if v.1 > w.1 then v.1 else w.1) ≤ (if v.2 < w.2 then v.2 else w.2)) = decide (max w.1 v.1 ≤ min w.2 v.2) := by
    refine decide_eq_decide.mpr ?_
    split <;> split <;> omega
  rw [e]
  exact k
abbrev sp_meet (K : PySem.W.Frag) : Sp := fun vs H Q E => ∃ v0 v1, vs = [v0, v1] ∧ pr_meet K v0 v1 H Q E
theorem ok_meet (T : Txt K mg A) : FnOk P w K mg base CX0 1 A.a_meet A.d_meet ["one", "other"] (sp_meet K) := by
  refine T.F_meet.ok sc_meet (fun vs H Q E h => by obtain ⟨v0, v1, rfl, _⟩ := h; rfl) (fun cdv A0 outer s H vs Q E hr h => ?_)
  obtain ⟨v0, v1, rfl, h⟩ := h
  exact ⟨t_meet K, (pss_one (ps_ret (pe_cmpR op_le (pe_callB (q_max2 (by rfl)) (by rfl) T.z_max (by decide +kernel) (pa_cons (pe_ix ix_list (pv 0) pe_int (fun _ _ => rfl)) (pa_cons (pe_ix ix_list (pv 1) pe_int (fun _ _ => rfl)) pa_nil))) (pe_callB (q_min2 (by rfl)) (by rfl) T.z_min (by decide +kernel) (pa_cons (pe_ix ix_list (pv 0) (pe_un un_neg pe_int) (fun _ _ => rfl)) (pa_cons (pe_ix ix_list (pv 1) (pe_un un_neg pe_int) (fun _ _ => rfl)) pa_nil))) (nomark _)))), pure_meet h⟩


/-- the fields of a Giver -/
abbrev gvF (nt cm ln gv lv ow up : Addr) : List (Str × V) := [(Str.ofString "net", .ref nt), (Str.ofString "come", .ref cm), (Str.ofString "lain", .ref ln), (Str.ofString "given", .ref gv), (Str.ofString "level", .ref lv), (Str.ofString "own", .ref ow), (Str.ofString "upto", .ref up)]
/-- a field is written: what is new stays, the instance alone is changed -/
theorem fld_step {H H' : Hp} {a p : Addr} {o x0 : HO} (x : HO) (ea : H a = some x0) (np : H p = none) (s : Same H H') (e : H' p = some o) : Same (hid [a] H) (hid [a] (upd H' a x)) ∧ hid [a] (upd H' a x) p = some o ∧ upd H' a x a = some x := by
  have pa : p ≠ a := fun z => by rw [z, ea] at np; cases np
  refine ⟨by rw [hid_upd (by simp)]; exact hid_mono s, ?_, upd_same⟩
  rw [hid_upd (by simp), hid_ne (by simpa using pa)]; exact e
theorem rep0g (n : Nat) : (List.replicate n [V.int 0]).flatten = List.map V.int (List.replicate n 0) := by
  induction n with
  | zero => rfl
  | succ n ih => rw [List.replicate_succ, List.flatten_cons, ih]; rfl
theorem putF_len (f : Str) (v : V) : ∀ fs : List (Str × V), (putF f v fs).length ≤ fs.length + 1
  | [] => Nat.le_refl _
  | (g, x) :: r => by
    unfold putF
    split
    · simp
    · have := putF_len f v r
      simp only [List.length_cons]
      omega
theorem free_back {H G : Hp} {a p : Addr} {x : HO} (S : Same (hid [a] H) (hid [a] G)) (ea : G a = some x) (n : G p = none) : H p = none := by
  have pa : p ∉ [a] := by
    intro z
    rw [List.mem_singleton.mp z, ea] at n
    cases n
  have := S.free (show hid [a] G p = none by rw [hid_ne pa]; exact n)
  rwa [hid_ne pa] at this
theorem ne_new {H : Hp} {p q : Addr} {o : HO} (hp : H p = some o) (hq : H q = none) : p ≠ q := fun e => by rw [e, hq] at hp; cases hp
def pr_Giver_init (K : PySem.W.Frag) (A : Ad) (v0 v1 : V) (H : Hp) (Q : VK) (E : XK) : Prop := (∃ N : Net, Dp K H v1 N.d ∧ N.ok ∧ N.kind ≠ Str.ofString "line" ∧ E (.ref A.c_OtherNet) none H) ∨ ∃ (a dx : Addr) (n : Int), v0 = .ref a ∧ H a = some (.ins A.c_Giver dx []) ∧ Dp K (hid [a] H) v1 (Net.line n).d ∧ (Net.line n).ok ∧
  ∀ (nt cm ln gv lv ow up : Addr) (rs : List Addr) (H' : Hp), Same (hid [a] H) (hid [a] H') → H' a = some (.ins A.c_Giver dx (gvF nt cm ln gv lv ow up)) → H' nt = some (.tup [.str (Str.ofString "line"), .int n]) → H' cm = some (.lst []) → H' ln = some (.lst []) → H' gv = some (.lst []) → H' lv = some (.lst []) → H' ow = some (.lst []) →
    H' up = some (.lst (rs.map V.ref)) → rs.length = (n - 1).toNat → (∀ (j : Nat) r, rs[j]? = some r → H' r = some (.lst (List.map V.int (List.replicate 42 0)))) →
    (up :: (rs ++ [ow, lv, gv, ln, cm, nt, a])).Nodup → (∀ r ∈ up :: (rs ++ [ow, lv, gv, ln, cm, nt]), H r = none) → Q .non H'
def t_Giver_init (K : PySem.W.Frag) (A : Ad) (E : XK) : TS :=
  (tSeq (tDrop (tCall (sp_must_be_kind K A) [] E (tCons (tVar 1) (tCons (tC (.str (Str.ofString "line"))) tNil))))
    (tSeq (sFld K (tVar 0) (tTup (tCons (tOp (rIxT K) (tVar 1) (tC (.int 0))) (tCons (tOp (rIxT K) (tVar 1) (tC (.int 1))) tNil))) "net")
    (tSeq (sFld K (tVar 0) (tLst tNil) "come")
    (tSeq (sFld K (tVar 0) (tLst tNil) "lain")
    (tSeq (sFld K (tVar 0) (tLst tNil) "given")
    (tSeq (sFld K (tVar 0) (tLst tNil) "level")
    (tSeq (sFld K (tVar 0) (tLst tNil) "own")
    (sFld K (tVar 0) (tLc (iRng1 (tCons (tOp xSub (tOp (rIxT K) (tVar 1) (tC (.int 1))) (tC (.int 1))) tNil)) (gName 2) tYes (tOp rRep (tLst (tCons (tC (.int 0)) tNil)) (tOp xAdd (tC (.int 40)) (tC (.int 2)))) [2]) "upto"))))))))
theorem pure_Giver_init (T : Txt K mg A) {v0 v1 : V} {H : Hp} {Q : VK} {E : XK} (h : pr_Giver_init K A v0 v1 H Q E) : t_Giver_init K A E ⟨fun _ H' => Q .non H', Q, fun _ _ => False, fun _ _ => False⟩ [some v0, some v1, none] H := by
  rcases h with ⟨N, dn, ok, hk, qe⟩ | ⟨a, dx, n, rfl, ea, dn, ok, q⟩
  · unfold t_Giver_init
    wtm_at "s"
    exact ⟨_, _, rfl, N.a, _, rfl, (a_d N).symm ▸ dn, a_lens ok, .inr (.inl ⟨N, rfl, ok, hk, qe⟩)⟩
  have dn0 := dp_same (hid_same _ _) dn
  obtain ⟨b, y, rfl, hs, hy⟩ := dp_net dn
  obtain rfl := dp_int hy
  have hs0 := same_seqT (hid_same _ _) hs
  unfold t_Giver_init
  wtm_at "s"
  refine ⟨_, _, rfl, (Net.line n).a, _, rfl, (a_d (Net.line n)).symm ▸ dn0, a_lens ok, .inr (.inr ⟨Net.line n, rfl, ok, rfl, ?_⟩)⟩
  wtm_at "s"
  refine kT (by simp) (fun nt H1 nnt s1 e1 => ?_)
  wtm_at "s"
  refine k_pF (s1 _ _ ea) T.K_Giver T.N_Giver_net (by decide) ?_
  obtain ⟨S1, e1, ea1⟩ := fld_step (.ins A.c_Giver dx (putF (Str.ofString "net") (.ref nt) [])) ea nnt s1 e1
  generalize upd H1 a (.ins A.c_Giver dx (putF (Str.ofString "net") (.ref nt) [])) = G1 at S1 e1 ea1 ⊢
  have l1 : (putF (Str.ofString "net") (.ref nt) []).length ≤ 1 := putF_len _ _ _
  wtm_at "s"
  refine kL (by simp) (fun cm H2 ncm s2 e2 => ?_)
  wtm_at "s"
  refine k_pF (s2 _ _ ea1) T.K_Giver T.N_Giver_come (by omega) ?_
  obtain ⟨S2, e2, ea2⟩ := fld_step (.ins A.c_Giver dx (putF (Str.ofString "come") (.ref cm) (putF (Str.ofString "net") (.ref nt) []))) ea1 ncm s2 e2
  generalize upd H2 a (.ins A.c_Giver dx (putF (Str.ofString "come") (.ref cm) (putF (Str.ofString "net") (.ref nt) []))) = G2 at S2 e2 ea2 ⊢
  have l2 : (putF (Str.ofString "come") (.ref cm) (putF (Str.ofString "net") (.ref nt) [])).length ≤ 2 := Nat.le_trans (putF_len _ _ _) (Nat.succ_le_succ l1)
  wtm_at "s"
  refine kL (by simp) (fun ln H3 nln s3 e3 => ?_)
  wtm_at "s"
  refine k_pF (s3 _ _ ea2) T.K_Giver T.N_Giver_lain (by omega) ?_
  obtain ⟨S3, e3, ea3⟩ := fld_step (.ins A.c_Giver dx (putF (Str.ofString "lain") (.ref ln) (putF (Str.ofString "come") (.ref cm) (putF (Str.ofString "net") (.ref nt) [])))) ea2 nln s3 e3
  generalize upd H3 a (.ins A.c_Giver dx (putF (Str.ofString "lain") (.ref ln) (putF (Str.ofString "come") (.ref cm) (putF (Str.ofString "net") (.ref nt) [])))) = G3 at S3 e3 ea3 ⊢
  have l3 : (putF (Str.ofString "lain") (.ref ln) (putF (Str.ofString "come") (.ref cm) (putF (Str.ofString "net") (.ref nt) []))).length ≤ 3 := Nat.le_trans (putF_len _ _ _) (Nat.succ_le_succ l2)
  wtm_at "s"
  refine kL (by simp) (fun gv H4 ngv s4 e4 => ?_)
  wtm_at "s"
  refine k_pF (s4 _ _ ea3) T.K_Giver T.N_Giver_given (by omega) ?_
  obtain ⟨S4, e4, ea4⟩ := fld_step (.ins A.c_Giver dx (putF (Str.ofString "given") (.ref gv) (putF (Str.ofString "lain") (.ref ln) (putF (Str.ofString "come") (.ref cm) (putF (Str.ofString "net") (.ref nt) []))))) ea3 ngv s4 e4
  generalize upd H4 a (.ins A.c_Giver dx (putF (Str.ofString "given") (.ref gv) (putF (Str.ofString "lain") (.ref ln) (putF (Str.ofString "come") (.ref cm) (putF (Str.ofString "net") (.ref nt) []))))) = G4 at S4 e4 ea4 ⊢
  have l4 : (putF (Str.ofString "given") (.ref gv) (putF (Str.ofString "lain") (.ref ln) (putF (Str.ofString "come") (.ref cm) (putF (Str.ofString "net") (.ref nt) [])))).length ≤ 4 := Nat.le_trans (putF_len _ _ _) (Nat.succ_le_succ l3)
  wtm_at "s"
  refine kL (by simp) (fun lv H5 nlv s5 e5 => ?_)
  wtm_at "s"
  refine k_pF (s5 _ _ ea4) T.K_Giver T.N_Giver_level (by omega) ?_
  obtain ⟨S5, e5, ea5⟩ := fld_step (.ins A.c_Giver dx (putF (Str.ofString "level") (.ref lv) (putF (Str.ofString "given") (.ref gv) (putF (Str.ofString "lain") (.ref ln) (putF (Str.ofString "come") (.ref cm) (putF (Str.ofString "net") (.ref nt) [])))))) ea4 nlv s5 e5
  generalize upd H5 a (.ins A.c_Giver dx (putF (Str.ofString "level") (.ref lv) (putF (Str.ofString "given") (.ref gv) (putF (Str.ofString "lain") (.ref ln) (putF (Str.ofString "come") (.ref cm) (putF (Str.ofString "net") (.ref nt) [])))))) = G5 at S5 e5 ea5 ⊢
  have l5 : (putF (Str.ofString "level") (.ref lv) (putF (Str.ofString "given") (.ref gv) (putF (Str.ofString "lain") (.ref ln) (putF (Str.ofString "come") (.ref cm) (putF (Str.ofString "net") (.ref nt) []))))).length ≤ 5 := Nat.le_trans (putF_len _ _ _) (Nat.succ_le_succ l4)
  wtm_at "s"
  refine kL (by simp) (fun ow H6 now s6 e6 => ?_)
  wtm_at "s"
  refine k_pF (s6 _ _ ea5) T.K_Giver T.N_Giver_own (by omega) ?_
  obtain ⟨S6, e6, ea6⟩ := fld_step (.ins A.c_Giver dx (putF (Str.ofString "own") (.ref ow) (putF (Str.ofString "level") (.ref lv) (putF (Str.ofString "given") (.ref gv) (putF (Str.ofString "lain") (.ref ln) (putF (Str.ofString "come") (.ref cm) (putF (Str.ofString "net") (.ref nt) []))))))) ea5 now s6 e6
  generalize upd H6 a (.ins A.c_Giver dx (putF (Str.ofString "own") (.ref ow) (putF (Str.ofString "level") (.ref lv) (putF (Str.ofString "given") (.ref gv) (putF (Str.ofString "lain") (.ref ln) (putF (Str.ofString "come") (.ref cm) (putF (Str.ofString "net") (.ref nt) []))))))) = G6 at S6 e6 ea6 ⊢
  have l6 : (putF (Str.ofString "own") (.ref ow) (putF (Str.ofString "level") (.ref lv) (putF (Str.ofString "given") (.ref gv) (putF (Str.ofString "lain") (.ref ln) (putF (Str.ofString "come") (.ref cm) (putF (Str.ofString "net") (.ref nt) [])))))).length ≤ 6 := Nat.le_trans (putF_len _ _ _) (Nat.succ_le_succ l5)
  have hs6 : SqT K G6 b [.str (Net.line n).kind, .int n] := same_seqT ((S1.trans (S2.trans (S3.trans (S4.trans (S5.trans S6))))).trans (hid_same _ _)) hs
  have ok1 : 1 < n ∧ n ≤ 60 := by obtain ⟨z1, z2⟩ := ok; omega
  wtm_at "s"
  refine lc_rowsR (by omega) (fun _ => .lst (List.map V.int (List.replicate 42 0))) ?_ (fun D rs H7 nD s7 eD lr nd dr fr at_ => ?_)
  · intro i H' hi sm R R0 h1
    wtm_at "s"
    refine kL (by simp) (fun z H'' nz sz ez => ?_)
    wtm_at "s"
    refine k_repN ez (by decide) (by decide) (by decide) (fun r H3 nr sr er => ?_)
    refine h1 r H3 (sz.free nr) (sz.trans sr) ?_
    rw [er, rep0g]; rfl
  · wtm_at "s"
    have ne_nt_cm := ne_new (hid_same _ _ _ _ e1) ncm
    have ne_a_cm := ne_new ea1 ncm
    have ne_nt_ln := ne_new (hid_same _ _ _ _ ((S2) _ _ e1)) nln
    have ne_cm_ln := ne_new (hid_same _ _ _ _ e2) nln
    have ne_a_ln := ne_new ea2 nln
    have ne_nt_gv := ne_new (hid_same _ _ _ _ ((S2.trans (S3)) _ _ e1)) ngv
    have ne_cm_gv := ne_new (hid_same _ _ _ _ ((S3) _ _ e2)) ngv
    have ne_ln_gv := ne_new (hid_same _ _ _ _ e3) ngv
    have ne_a_gv := ne_new ea3 ngv
    have ne_nt_lv := ne_new (hid_same _ _ _ _ ((S2.trans (S3.trans (S4))) _ _ e1)) nlv
    have ne_cm_lv := ne_new (hid_same _ _ _ _ ((S3.trans (S4)) _ _ e2)) nlv
    have ne_ln_lv := ne_new (hid_same _ _ _ _ ((S4) _ _ e3)) nlv
    have ne_gv_lv := ne_new (hid_same _ _ _ _ e4) nlv
    have ne_a_lv := ne_new ea4 nlv
    have ne_nt_ow := ne_new (hid_same _ _ _ _ ((S2.trans (S3.trans (S4.trans (S5)))) _ _ e1)) now
    have ne_cm_ow := ne_new (hid_same _ _ _ _ ((S3.trans (S4.trans (S5))) _ _ e2)) now
    have ne_ln_ow := ne_new (hid_same _ _ _ _ ((S4.trans (S5)) _ _ e3)) now
    have ne_gv_ow := ne_new (hid_same _ _ _ _ ((S5) _ _ e4)) now
    have ne_lv_ow := ne_new (hid_same _ _ _ _ e5) now
    have ne_a_ow := ne_new ea5 now
    have ne_a_nt := ne_new ea nnt
    have y1 : G6 nt ≠ none := by rw [hid_same _ _ _ _ ((S2.trans (S3.trans (S4.trans (S5.trans (S6))))) _ _ e1)]; simp
    have y2 : G6 cm ≠ none := by rw [hid_same _ _ _ _ ((S3.trans (S4.trans (S5.trans (S6)))) _ _ e2)]; simp
    have y3 : G6 ln ≠ none := by rw [hid_same _ _ _ _ ((S4.trans (S5.trans (S6))) _ _ e3)]; simp
    have y4 : G6 gv ≠ none := by rw [hid_same _ _ _ _ ((S5.trans (S6)) _ _ e4)]; simp
    have y5 : G6 lv ≠ none := by rw [hid_same _ _ _ _ ((S6) _ _ e5)]; simp
    have y6 : G6 ow ≠ none := by rw [hid_same _ _ _ _ e6]; simp
    have y0 : G6 a ≠ none := by rw [ea6]; simp
    have f2 : H cm = none := free_back (S1) ea1 ncm
    have f3 : H ln = none := free_back (S1.trans (S2)) ea2 nln
    have f4 : H gv = none := free_back (S1.trans (S2.trans (S3))) ea3 ngv
    have f5 : H lv = none := free_back (S1.trans (S2.trans (S3.trans (S4)))) ea4 nlv
    have f6 : H ow = none := free_back (S1.trans (S2.trans (S3.trans (S4.trans (S5))))) ea5 now
    have f7 : ∀ x, G6 x = none → H x = none := fun x hx => free_back (S1.trans (S2.trans (S3.trans (S4.trans (S5.trans (S6)))))) ea6 hx
    have all6 : ∀ x ∈ [ow, lv, gv, ln, cm, nt, a], G6 x ≠ none := by
      intro x hx
      simp only [List.mem_cons, List.not_mem_nil, or_false] at hx
      rcases hx with rfl | rfl | rfl | rfl | rfl | rfl | rfl <;> assumption
    have nd6 : [ow, lv, gv, ln, cm, nt, a].Nodup := by
      simp only [List.nodup_cons, List.mem_cons, List.not_mem_nil, or_false, not_or, List.nodup_nil, not_false_eq_true, and_true]
      exact ⟨⟨ne_lv_ow.symm, ne_gv_ow.symm, ne_ln_ow.symm, ne_cm_ow.symm, ne_nt_ow.symm, ne_a_ow.symm⟩, ⟨ne_gv_lv.symm, ne_ln_lv.symm, ne_cm_lv.symm, ne_nt_lv.symm, ne_a_lv.symm⟩, ⟨ne_ln_gv.symm, ne_cm_gv.symm, ne_nt_gv.symm, ne_a_gv.symm⟩, ⟨ne_cm_ln.symm, ne_nt_ln.symm, ne_a_ln.symm⟩, ⟨ne_nt_cm.symm, ne_a_cm.symm⟩, ne_a_nt.symm⟩
    have nda : (D :: (rs ++ [ow, lv, gv, ln, cm, nt, a])).Nodup := by
      refine List.nodup_cons.mpr ⟨fun z => ?_, List.nodup_append.mpr ⟨nd, nd6, fun r hr x hx e => ?_⟩⟩
      · rcases List.mem_append.mp z with z | z
        · exact dr z
        · exact all6 D z nD
      · subst e
        exact all6 r hx (fr r hr)
    refine k_pF (s7 _ _ ea6) T.K_Giver T.N_Giver_upto (by omega) ?_
    have keep : ∀ p o, p ∈ [ow, lv, gv, ln, cm, nt] → hid [a] G6 p = some o → ∀ x, upd H7 a x p = some o := fun p o hp e x => by
      have pa : p ≠ a := fun z => by rw [z, hid_in (by simp)] at e; cases e
      rw [upd_ne pa]
      exact s7 _ _ (hid_same _ _ _ _ e)
    refine q nt cm ln gv lv ow D rs _ ?_ ?_ (keep nt _ (by simp) ((S2.trans (S3.trans (S4.trans (S5.trans S6)))) _ _ e1) _) (keep cm _ (by simp) ((S3.trans (S4.trans (S5.trans S6))) _ _ e2) _) (keep ln _ (by simp) ((S4.trans (S5.trans S6)) _ _ e3) _) (keep gv _ (by simp) ((S5.trans S6) _ _ e4) _) (keep lv _ (by simp) (S6 _ _ e5) _) (keep ow _ (by simp) e6 _) ?_ (by rw [lr]) (fun j r hr => ?_) nda ?_
    · rw [hid_upd (by simp)]
      exact (S1.trans (S2.trans (S3.trans (S4.trans (S5.trans S6))))).trans (hid_mono s7)
    · rw [upd_same]; rfl
    · rw [upd_ne (fun z => all6 D (by rw [z]; simp) nD)]; exact eD
    · rw [upd_ne (fun z => all6 r (by rw [z]; simp) (fr r (List.mem_of_getElem? hr)))]; exact at_ j r hr
    · intro r hr
      rcases List.mem_cons.mp hr with rfl | hr
      · exact f7 _ nD
      · rcases List.mem_append.mp hr with hr | hr
        · exact f7 _ (fr r hr)
        · simp only [List.mem_cons, List.not_mem_nil, or_false] at hr
          rcases hr with rfl | rfl | rfl | rfl | rfl | rfl <;> assumption
abbrev sp_Giver_init (K : PySem.W.Frag) (A : Ad) : Sp := fun vs H Q E => ∃ v0 v1, vs = [v0, v1] ∧ pr_Giver_init K A v0 v1 H Q E
theorem ok_Giver_init (T : Txt K mg A) : FnOk P w K mg base (L2.CX P w) 5 A.a_Giver_init A.d_Giver_init ["self", "net"] (sp_Giver_init K A) := by
  refine T.F_Giver_init.okX sc_Giver_init (fun vs H Q E h => by obtain ⟨v0, v1, rfl, _⟩ := h; rfl) (fun cdv A0 outer s H vs Q E hr h => ?_)
  obtain ⟨v0, v1, rfl, h⟩ := h
  exact ⟨t_Giver_init K A E, (pss_cons (ps_expr (pe_call (E := E) (ok_must_be_kind T) (hr.mono (by decide)) (by rfl) T.g_must_be_kind T.F_must_be_kind.kp T.b_must_be_kind .nil (passes_call (takes_of rfl rfl rfl rfl) (fun _ _ _ _ h => h)) (pa_cons (pv 1) (pa_cons pe_str pa_nil))))
      (pss_cons (ps_fld (pv 0) (pe_tup (pa_cons (pe_ix ix_tup (pv 1) pe_int (fun _ _ => rfl)) (pa_cons (pe_ix ix_tup (pv 1) pe_int (fun _ _ => rfl)) pa_nil))) (by rfl))
      (pss_cons (ps_fld (pv 0) (pe_lst pa_nil) (by rfl))
      (pss_cons (ps_fld (pv 0) (pe_lst pa_nil) (by rfl))
      (pss_cons (ps_fld (pv 0) (pe_lst pa_nil) (by rfl))
      (pss_cons (ps_fld (pv 0) (pe_lst pa_nil) (by rfl))
      (pss_cons (ps_fld (pv 0) (pe_lst pa_nil) (by rfl))
      (pss_one (ps_fld (pv 0) (pe_lc (own := [("tie", 2)]) (by rfl) sc_Giver_init.nd (pi_range1 (by rfl) T.z_range (pa_cons (pe_op op_sub (pe_ix ix_tup (pv 1) pe_int (fun _ _ => rfl)) pe_int) pa_nil)) (blkOk_by (own := [("tie", 2)]) (N := ["self", "net", "tie"]) (sc := defScope s_Giver_init) (by decide +kernel)) (fun _ _ _ _ _ => (pg_name (i := 2) sc_Giver_init.nd rfl (Or.inl rfl))) (fun _ _ _ _ _ => pts_nil) (fun _ _ _ _ _ => (pe_op op_rep (pe_lst (pa_cons pe_int pa_nil)) (pe_op op_add (pe_glob (v := .int 40) (by rfl) T.c_MOST_WAYS ⟨_, rfl⟩) pe_int)))) (by rfl)))))))))), pure_Giver_init T h⟩


def rowOf (es : List Ent) (t : Nat) : List Int := (List.range 42).map fun i : Nat => ((upto es (t : Int) i : Nat) : Int)
theorem rowOf_get {es : List Ent} {t i : Nat} (h : i < 42) : (rowOf es t)[i]? = some ((upto es (t : Int) i : Nat) : Int) := by
  unfold rowOf
  rw [List.getElem?_map, List.getElem?_range h]; rfl
/-- the rows of upto -/
structure UpAt (K : PySem.W.Frag) (A : Ad) (H : Hp) (a up : Addr) (rs : List Addr) (n : Int) (es : List Ent) : Prop where
  ins : ∃ dx fs, H a = some (.ins A.c_Giver dx fs) ∧ fs.lookup (Str.ofString "upto") = some (.ref up)
  up_ : H up = some (.lst (rs.map V.ref))
  len : rs.length = (n - 1).toNat
  row : ∀ (j : Nat) r, rs[j]? = some r → H r = some (.lst (List.map V.int (rowOf es j)))
theorem UpAt.same {H H' : Hp} {a up : Addr} {rs : List Addr} {n : Int} {es : List Ent} (u : UpAt K A H a up rs n es) (s : Same H H') : UpAt K A H' a up rs n es := by
  obtain ⟨⟨dx, fs, h1, h2⟩, h3, h4, h5⟩ := u
  exact ⟨⟨dx, fs, s _ _ h1, h2⟩, s _ _ h3, h4, fun j r hr => s _ _ (h5 j r hr)⟩
def pr_Giver_level_for (K : PySem.W.Frag) (A : Ad) (v0 v1 : V) (H : Hp) (Q : VK) (_ : XK) : Prop := ∃ (a up p : Addr) (rs : List Addr) (n : Int) (es : List Ent) (w : Int × Int), v0 = .ref a ∧ v1 = .ref p ∧ UpAt K A H a up rs n es ∧ SqL K H p ((tiesI w).map V.int) ∧ 0 ≤ w.1 ∧ w.1 ≤ w.2 ∧ w.2 < n - 1 ∧ n ≤ 60 ∧ es.length ≤ 40 ∧
  ∀ (i : Nat) H', LevelOf es w i → i ≤ es.length + 1 → Same H H' → Q (.int i) H'
def t_Giver_level_for (K : PySem.W.Frag) (A : Ad) : TS :=
  (tSeq (tAsg (tC (.int 1)) (gName 2))
    (tSeq (tWhile (tTest (tOp xGt (tOp xAdd (tCB (rMax K) (tCons (tLc (iList K (tVar 1)) (gName 3) tYes (tOp (rIxL K) (tOp (rIxL K) (tFld K (tVar 0) "upto") (tVar 3)) (tVar 2)) [3]) tNil)) (tC (.int 1))) (tVar 2)))
      (tAug 2 (tC (.int 1)) (ipI fun i j => i + j)))
    (tRet (tVar 2))))
theorem pure_Giver_level_for (T : Txt K mg A) {v0 v1 : V} {H : Hp} {Q : VK} {E : XK} (h : pr_Giver_level_for K A v0 v1 H Q E) : t_Giver_level_for K A ⟨fun _ H' => Q .non H', Q, fun _ _ => False, fun _ _ => False⟩ [some v0, some v1, none, none] H := by
  obtain ⟨a, up, p, rs, n, es, w, rfl, rfl, u, hp, w0, w1, w2, n60, le, q⟩ := h
  obtain ⟨lv, hlv, lvl⟩ := level_ex es w
  unfold t_Giver_level_for
  wtm_at "s"
  refine k_while ⟨fun m σ' H' => Same H H' ∧ ∃ i : Nat, 1 ≤ i ∧ i ≤ lv ∧ m + i = lv ∧ σ' = [some (.ref a), some (.ref p), some (.int (i : Nat)), none], ⟨lv - 1, Same.refl _, 1, by omega, lvl.1, by have := lvl.1; omega, rfl⟩, ?_⟩
  rintro m σ' G ⟨sG, i, i1, i2, mi, rfl⟩
  have uG := u.same sG
  have hpG := sG.seq hp
  obtain ⟨⟨dx, fs, hia, hif⟩, hup, hlen, hrow⟩ := uG
  wtm_at "s"
  refine lc_pure hpG (tiesI w) (by simp) (by rw [tiesI_len]; omega) (fun t => some (V.int ((upto es t i : Nat) : Int))) ?_ (fun D H2 nD s2 eD => ?_)
  · intro j x t H' hx ht sm R R0 h1 h2
    rw [List.getElem?_map, ht] at hx
    cases hx
    obtain ⟨t0, t1⟩ := tiesI_mem.mp (List.mem_of_getElem? ht)
    obtain ⟨k, rfl⟩ := Int.eq_ofNat_of_zero_le (show 0 ≤ t by omega)
    obtain ⟨r, hr⟩ : ∃ r, rs[k]? = some r := ⟨rs[k]'(by omega), List.getElem?_eq_getElem (by omega)⟩
    wtm_at "s"
    refine k_gF (sm _ _ hia) T.K_Giver T.N_Giver_upto hif ?_
    wtm_at "s"
    refine k_ixL (sl (sm _ _ hup)) (atI_nat (by rw [List.getElem?_map, hr]; rfl)) ?_
    wtm_at "s"
    refine k_ixN (sl (sm _ _ (hrow k r hr))) (rowOf_get (by omega)) ?_
    exact h1 _ rfl
  have eD' : H2 D = some (.lst (List.map V.int ((tiesI w).map fun t => ((upto es t i : Nat) : Int)))) := by
    rw [eD, show (fun t => some (V.int ((upto es t i : Nat) : Int))) = some ∘ (fun t : Int => V.int ((upto es t i : Nat) : Int)) from rfl, List.filterMap_eq_map, List.map_map]; rfl
  wtm_at "s"
  refine k_max (sl eD') (by rw [List.length_map, tiesI_len]; omega) (fun mx m1 m2 => ?_)
  wtm_at "s"
  refine k_it (fun c => ?_) (fun c => ?_)
  · have il : i < lv := by
      refine Classical.byContradiction fun z => ?_
      obtain rfl : i = lv := by omega
      obtain ⟨t, ht, rfl⟩ := List.mem_map.mp m1
      have := lvl.2.1 t (tiesI_mem.mp ht)
      omega
    refine ⟨fun σ' H' => Same H H' ∧ σ' = [some (.ref a), some (.ref p), some (.int ((i + 1 : Nat) : Int)), none], fun σ' H' e => ⟨m - 1, by omega, e.1, i + 1, by omega, by omega, by omega, e.2⟩, ?_⟩
    wtm_at "s"
    exact ⟨sG.trans s2, by rw [show ((i + 1 : Nat) : Int) = (i : Int) + 1 by omega]⟩
  · have il : i = lv := by
      refine Classical.byContradiction fun z => ?_
      obtain ⟨t, ht, hu⟩ := lvl.2.2 i i1 (by omega)
      have := m2 _ (List.mem_map.mpr ⟨t, tiesI_mem.mpr ht, rfl⟩)
      omega
    subst il
    wtm_at "s"
    exact q _ _ lvl hlv (sG.trans s2)
abbrev sp_Giver_level_for (K : PySem.W.Frag) (A : Ad) : Sp := fun vs H Q E => ∃ v0 v1, vs = [v0, v1] ∧ pr_Giver_level_for K A v0 v1 H Q E
theorem ok_Giver_level_for (T : Txt K mg A) : FnOk P w K mg base CX0 1 A.a_Giver_level_for A.d_Giver_level_for ["self", "ties"] (sp_Giver_level_for K A) := by
  refine T.F_Giver_level_for.ok sc_Giver_level_for (fun vs H Q E h => by obtain ⟨v0, v1, rfl, _⟩ := h; rfl) (fun cdv A0 outer s H vs Q E hr h => ?_)
  obtain ⟨v0, v1, rfl, h⟩ := h
  exact ⟨t_Giver_level_for K A, (pss_cons (ps_set (i := 2) sc_Giver_level_for.nd rfl (Or.inr rfl) pe_int)
      (pss_cons (ps_while PassesOwn.never (pt_cmpR op_gt (pe_op op_add (pe_callB (cr_max (by rfl)) (by rfl) T.z_max (by decide +kernel) (pa_cons (pe_lc (own := [("tie", 3)]) (by rfl) sc_Giver_level_for.nd (pi_list (pv 1)) (blkOk_by (own := [("tie", 3)]) (N := ["self", "ties", "i", "tie"]) (sc := defScope s_Giver_level_for) (by decide +kernel)) (fun _ _ _ _ _ => (pg_name (i := 3) sc_Giver_level_for.nd rfl (Or.inl rfl))) (fun _ _ _ _ _ => pts_nil) (fun _ _ _ _ _ => (pe_ix ix_list (pe_ix ix_list (pe_fld (pv 0) (by rfl)) (pv 3) (fun _ _ => rfl)) (pv 2) (fun _ _ => rfl)))) pa_nil)) pe_int) (pv 2) (nomark _))
      (pss_one (ps_aug (i := 2) sc_Giver_level_for.nd rfl (Or.inr rfl) pe_int ip_add)))
      (pss_one (ps_ret (pv 2))))), pure_Giver_level_for T h⟩


def ownT (es : List Ent) (i : Nat) (t : Int) : Prop := upto es t (i - 1) = i - 1 ∧ upto es t i = i - 1
def OwnOf (es : List Ent) (w : Int × Int) (i : Nat) (t : Int) : Prop := onI w t ∧ ownT es i t ∧ ∀ t', onI w t' → t' < t → ¬ ownT es i t'
def pr_Giver_own_for (K : PySem.W.Frag) (A : Ad) (v0 v1 v2 : V) (H : Hp) (Q : VK) (_ : XK) : Prop := ∃ (a up p : Addr) (rs : List Addr) (n : Int) (es : List Ent) (w : Int × Int) (i : Nat), v0 = .ref a ∧ v1 = .ref p ∧ v2 = .int i ∧ UpAt K A H a up rs n es ∧ SqL K H p ((tiesI w).map V.int) ∧ 0 ≤ w.1 ∧ w.1 ≤ w.2 ∧ w.2 < n - 1 ∧ n ≤ 60 ∧ es.length ≤ 40 ∧ LevelOf es w i ∧ i ≤ 41 ∧ (∀ e ∈ es, 1 ≤ e.2) ∧
  ∀ (t : Int), OwnOf es w i t → Q (.int t) H
def t_Giver_own_for (K : PySem.W.Frag) (A : Ad) : TS :=
  (tSeq (tFor (iList K (tVar 1)) (gName 3)
      (tIfS (tAnd (tTest (tOp rEq (tOp (rIxL K) (tOp (rIxL K) (tFld K (tVar 0) "upto") (tVar 3)) (tOp xSub (tVar 2) (tC (.int 1)))) (tOp xSub (tVar 2) (tC (.int 1))))) (tTest (tOp rEq (tOp (rIxL K) (tOp (rIxL K) (tFld K (tVar 0) "upto") (tVar 3)) (tVar 2)) (tOp xSub (tVar 2) (tC (.int 1)))))) (tRet (tVar 3)) tNext))
    (tRet (tC .non)))
theorem own_there {es : List Ent} {w : Int × Int} {i : Nat} (l : LevelOf es w i) (hw : w.1 ≤ w.2) (pos : ∀ e ∈ es, 1 ≤ e.2) : ∃ t, onI w t ∧ ownT es i t := by
  obtain ⟨l1, l2, l3⟩ := l
  have key : ∀ t, onI w t → i - 1 ≤ upto es t (i - 1) → ownT es i t := fun t ht hu => by
    have a := l2 t ht
    have b := upto_lev (es := es) (t := t) (i := i - 1) (j := i) (by omega)
    exact ⟨by omega, by omega⟩
  by_cases c : i = 1
  · subst c
    exact ⟨w.1, ⟨by omega, hw⟩, key _ ⟨by omega, hw⟩ (Nat.zero_le _)⟩
  · obtain ⟨t, h1, h2⟩ := l3 (i - 1) (by omega) (by omega)
    exact ⟨t, h1, key t h1 h2⟩
theorem pure_Giver_own_for (T : Txt K mg A) {v0 v1 v2 : V} {H : Hp} {Q : VK} {E : XK} (h : pr_Giver_own_for K A v0 v1 v2 H Q E) : t_Giver_own_for K A ⟨fun _ H' => Q .non H', Q, fun _ _ => False, fun _ _ => False⟩ [some v0, some v1, some v2, none] H := by
  obtain ⟨a, up, p, rs, n, es, w, i, rfl, rfl, rfl, u, hp, w0, w1, w2, n60, le, lvl, i41, pos, q⟩ := h
  obtain ⟨own, hown⟩ := own_there lvl w1 pos
  have i1 := lvl.1
  obtain ⟨⟨dx, fs, hia, hif⟩, hup, hlen, hrow⟩ := u
  unfold t_Giver_own_for
  wtm_at "s"
  refine forL hp (fun j σ' H' => H' = H ∧ (∀ t, onI w t → t < w.1 + (j : Nat) → ¬ ownT es i t) ∧ ∃ k3, σ' = [some (.ref a), some (.ref p), some (.int (i : Nat)), k3]) ⟨rfl, fun t ht h => by unfold onI at ht; omega, _, rfl⟩ (fun j σ' H' _ e => by rw [e.1]; exact hp) ?_ ?_
  · rintro j x σ' H' hx ⟨rfl, hno, k3, rfl⟩
    have hj : j < (tiesI w).length := by
      have := (List.getElem?_eq_some_iff.mp hx).1
      simpa using this
    rw [tiesI_len] at hj
    rw [List.getElem?_map, tiesI_get (by omega)] at hx
    cases hx
    obtain ⟨k, hk⟩ := Int.eq_ofNat_of_zero_le (show 0 ≤ w.1 + (j : Int) by omega)
    obtain ⟨r, hr⟩ : ∃ r, rs[k]? = some r := ⟨rs[k]'(by omega), List.getElem?_eq_getElem (by omega)⟩
    rw [hk]
    wtm_at "s"
    refine k_gF hia T.K_Giver T.N_Giver_upto hif ?_
    wtm_at "s"
    refine k_ixL (sl hup) (atI_nat (by rw [List.getElem?_map, hr]; rfl)) ?_
    wtm_at "s"
    rw [show (i : Int) - 1 = ((i - 1 : Nat) : Int) by omega]
    refine k_ixN (sl (hrow k r hr)) (rowOf_get (by omega)) ?_
    wtm_at "s"
    have more : ¬ ownT es i (k : Int) → ∀ t, onI w t → t < w.1 + ((j + 1 : Nat) : Int) → ¬ ownT es i t := fun nk t ht hlt => by
      by_cases c : t < w.1 + (j : Nat)
      · exact hno t ht c
      · rw [show t = (k : Int) by omega]; exact nk
    refine k_it (fun c1 => ?_) (fun c1 => ?_)
    · wtm_at "s"
      refine k_gF hia T.K_Giver T.N_Giver_upto hif ?_
      wtm_at "s"
      refine k_ixL (sl hup) (atI_nat (by rw [List.getElem?_map, hr]; rfl)) ?_
      wtm_at "s"
      refine k_ixN (sl (hrow k r hr)) (rowOf_get (by omega)) ?_
      wtm_at "s"
      refine k_it (fun c2 => ?_) (fun c2 => ?_)
      · wtm_at "s"
        exact q _ ⟨⟨by omega, by omega⟩, ⟨by omega, by omega⟩, fun t' ht hlt => hno t' ht (by omega)⟩
      · exact k_next ⟨rfl, more (fun z => c2 (by have := z.2; omega)), _, rfl⟩
    · first | refine k_next ?_ | refine iteF (k_next ?_)
      exact ⟨rfl, more (fun z => c1 (by have := z.1; omega)), _, rfl⟩
  · rintro σ' H' ⟨rfl, hno, k3, rfl⟩
    exact absurd hown.2 (hno own hown.1 (by rw [List.length_map, tiesI_len]; have := hown.1.2; omega))
abbrev sp_Giver_own_for (K : PySem.W.Frag) (A : Ad) : Sp := fun vs H Q E => ∃ v0 v1 v2, vs = [v0, v1, v2] ∧ pr_Giver_own_for K A v0 v1 v2 H Q E
theorem ok_Giver_own_for (T : Txt K mg A) : FnOk P w K mg base CX0 1 A.a_Giver_own_for A.d_Giver_own_for ["self", "ties", "i"] (sp_Giver_own_for K A) := by
  refine T.F_Giver_own_for.ok sc_Giver_own_for (fun vs H Q E h => by obtain ⟨v0, v1, v2, rfl, _⟩ := h; rfl) (fun cdv A0 outer s H vs Q E hr h => ?_)
  obtain ⟨v0, v1, v2, rfl, h⟩ := h
  exact ⟨t_Giver_own_for K A, (pss_cons (ps_for PassesOwn.never rfl (pi_list (pv 1)) (pg_name (i := 3) sc_Giver_own_for.nd rfl (Or.inl rfl))
      (pss_one (ps_if (PW.pt (pw_and (pt_cmpR op_eq (pe_ix ix_list (pe_ix ix_list (pe_fld (pv 0) (by rfl)) (pv 3) (fun _ _ => rfl)) (pe_op op_sub (pv 2) pe_int) (fun _ _ => rfl)) (pe_op op_sub (pv 2) pe_int) (nomark _)) (pw_and1 (pt_cmpR op_eq (pe_ix ix_list (pe_ix ix_list (pe_fld (pv 0) (by rfl)) (pv 3) (fun _ _ => rfl)) (pv 2) (fun _ _ => rfl)) (pe_op op_sub (pv 2) pe_int) (nomark _))))) (pss_one (ps_ret (pv 3))) pss_nil)))
      (pss_one (ps_ret pe_non))), pure_Giver_own_for T h⟩
theorem nodup_inj {α : Type} {l : List α} {i j : Nat} {x : α} (nd : l.Nodup) (hi : l[i]? = some x) (hj : l[j]? = some x) : i = j := by
  obtain ⟨b1, b2⟩ := List.getElem?_eq_some_iff.mp hi
  obtain ⟨c1, c2⟩ := List.getElem?_eq_some_iff.mp hj
  rcases Nat.lt_trichotomy i j with h | h | h
  · exact absurd (b2.trans c2.symm) (List.pairwise_iff_getElem.mp nd i j b1 c1 h)
  · exact h
  · exact absurd (c2.trans b2.symm) (List.pairwise_iff_getElem.mp nd j i c1 b1 h)
theorem upto_more {es : List Ent} {w : Int × Int} {i : Nat} {t : Int} {k : Nat} : upto (es ++ [(w, i)]) t k = upto es t k + if i ≤ k ∧ onI w t then 1 else 0 := by
  unfold upto
  rw [List.countP_append, List.countP_singleton]
  congr 1
  by_cases c : i ≤ k ∧ onI w t
  · rw [if_pos c, if_pos (pUp_on.mpr c)]
  · rw [if_neg c, if_neg (fun z => c (pUp_on.mp z))]
theorem row_off {es : List Ent} {w : Int × Int} {i t : Nat} (h : ¬ onI w (t : Int)) : rowOf (es ++ [(w, i)]) t = rowOf es t := by
  unfold rowOf
  refine List.map_congr_left fun k _ => ?_
  rw [upto_more, if_neg (fun z => h z.2), Nat.add_zero]
/-- a row half way: the first m of it are new -/
def rowMid (es : List Ent) (w : Int × Int) (i t m : Nat) : List Int := (List.range 42).map fun k : Nat => if k < m then ((upto (es ++ [(w, i)]) (t : Int) k : Nat) : Int) else ((upto es (t : Int) k : Nat) : Int)
theorem mid_from {es : List Ent} {w : Int × Int} {i t : Nat} : rowMid es w i t i = rowOf es t := by
  unfold rowMid rowOf
  refine List.map_congr_left fun k _ => ?_
  split
  · rw [upto_more, if_neg (fun z => by have := z.1; omega), Nat.add_zero]
  · rfl
theorem mid_end {es : List Ent} {w : Int × Int} {i t m : Nat} (h : 42 ≤ m) : rowMid es w i t m = rowOf (es ++ [(w, i)]) t := by
  unfold rowMid rowOf
  refine List.map_congr_left fun k hk => ?_
  have := List.mem_range.mp hk
  rw [if_pos (by omega)]
theorem mid_get {es : List Ent} {w : Int × Int} {i t m : Nat} (h : m < 42) : (rowMid es w i t m)[m]? = some ((upto es (t : Int) m : Nat) : Int) := by
  unfold rowMid
  rw [List.getElem?_map, List.getElem?_range h]
  simp
theorem mid_set {es : List Ent} {w : Int × Int} {i t m : Nat} (h : m < 42) (hi : i ≤ m) (on : onI w (t : Int)) : (rowMid es w i t m).set m (((upto es (t : Int) m : Nat) : Int) + 1) = rowMid es w i t (m + 1) := by
  refine List.ext_getElem? fun k => ?_
  unfold rowMid
  rw [List.getElem?_set]
  by_cases c : m = k
  · subst c
    rw [if_pos rfl, if_pos (by simp [h]), List.getElem?_map, List.getElem?_range h]
    simp only [Option.map_some]
    rw [if_pos (by omega), upto_more, if_pos ⟨hi, on⟩]
    congr 1
  · rw [if_neg c, List.getElem?_map, List.getElem?_map]
    by_cases d : k < 42
    · rw [List.getElem?_range d]
      simp only [Option.map_some]
      congr 1
      by_cases e : k < m
      · rw [if_pos e, if_pos (by omega)]
      · rw [if_neg e, if_neg (by omega)]
    · rw [List.getElem?_eq_none (by simpa using d)]; rfl
def pr_Giver_counted_in (K : PySem.W.Frag) (A : Ad) (v0 v1 v2 : V) (H : Hp) (Q : VK) (_ : XK) : Prop := ∃ (a up p : Addr) (rs : List Addr) (n : Int) (es : List Ent) (w : Int × Int) (i : Nat), v0 = .ref a ∧ v1 = .ref p ∧ v2 = .int i ∧ UpAt K A H a up rs n es ∧ H p = some (.lst ((tiesI w).map V.int)) ∧ a ∉ rs ∧ up ∉ rs ∧ p ∉ rs ∧ rs.Nodup ∧ 0 ≤ w.1 ∧ w.1 ≤ w.2 ∧ w.2 < n - 1 ∧ n ≤ 60 ∧ es.length ≤ 40 ∧ i ≤ 41 ∧
  ∀ H', Same (hid rs H) (hid rs H') → UpAt K A H' a up rs n (es ++ [(w, i)]) → Q .non H'
def t_Giver_counted_in (K : PySem.W.Frag) (A : Ad) : TS :=
  (tFor (iList K (tVar 1)) (gName 3)
      (tFor (iRng2 (tCons (tVar 2) (tCons (tOp xAdd (tC (.int 40)) (tC (.int 2))) tNil))) (gName 4)
      (xAugL K (tOp (rIxL K) (tFld K (tVar 0) "upto") (tVar 3)) (tVar 4) (tC (.int 1)))))
theorem pure_Giver_counted_in (T : Txt K mg A) {v0 v1 v2 : V} {H : Hp} {Q : VK} {E : XK} (h : pr_Giver_counted_in K A v0 v1 v2 H Q E) : t_Giver_counted_in K A ⟨fun _ H' => Q .non H', Q, fun _ _ => False, fun _ _ => False⟩ [some v0, some v1, some v2, none, none] H := by
  obtain ⟨a, up, p, rs, n, es, w, i, rfl, rfl, rfl, u, hp, na, nu, np, nd, w0, w1, w2, n60, le, i41, q⟩ := h
  obtain ⟨⟨dx, fs, hia, hif⟩, hup, hlen, hrow⟩ := u
  have hia' : hid rs H a = some (.ins A.c_Giver dx fs) := by rw [hid_ne na]; exact hia
  have hup' : hid rs H up = some (.lst (rs.map V.ref)) := by rw [hid_ne nu]; exact hup
  have hp' : hid rs H p = some (.lst ((tiesI w).map V.int)) := by rw [hid_ne np]; exact hp
  unfold t_Giver_counted_in
  wtm_at "s"
  refine forL (sl hp) (fun j σ' H' => Same (hid rs H) (hid rs H') ∧ (∀ (t : Nat) r, rs[t]? = some r → H' r = some (.lst (List.map V.int (if (t : Int) < w.1 + (j : Nat) then rowOf (es ++ [(w, i)]) t else rowOf es t)))) ∧ ∃ k3 k4, σ' = [some (.ref a), some (.ref p), some (.int (i : Nat)), k3, k4])
    ⟨Same.refl _, fun t r hr => ?_, _, _, rfl⟩ (fun j σ' H' _ e => sl (hid_same _ _ _ _ (e.1 _ _ hp'))) ?_ ?_
  · rw [hrow t r hr]
    split
    · rw [row_off (fun z => by have := z.1; omega)]
    · rfl
  · rintro j x σ' G hx ⟨sG, rows, k3, k4, rfl⟩
    have hj : j < (tiesI w).length := by
      have := (List.getElem?_eq_some_iff.mp hx).1
      simpa using this
    rw [tiesI_len] at hj
    rw [List.getElem?_map, tiesI_get (by omega)] at hx
    cases hx
    obtain ⟨k, hk⟩ := Int.eq_ofNat_of_zero_le (show 0 ≤ w.1 + (j : Int) by omega)
    obtain ⟨r, hr⟩ : ∃ r, rs[k]? = some r := ⟨rs[k]'(by omega), List.getElem?_eq_getElem (by omega)⟩
    have on : onI w (k : Int) := ⟨by omega, by omega⟩
    have rin : r ∈ rs := List.mem_of_getElem? hr
    have rowk := rows k r hr
    rw [if_neg (by omega)] at rowk
    rw [hk]
    wtm_at "s"
    have ar : a ∉ [r] := fun z => na (by rw [List.mem_singleton.mp z]; exact rin)
    have ur : up ∉ [r] := fun z => nu (by rw [List.mem_singleton.mp z]; exact rin)
    have ga0 : hid [r] G a = some (.ins A.c_Giver dx fs) := by rw [hid_ne ar]; exact hid_same _ _ _ _ (sG _ _ hia')
    have gu0 : hid [r] G up = some (.lst (rs.map V.ref)) := by rw [hid_ne ur]; exact hid_same _ _ _ _ (sG _ _ hup')
    refine forR (fun m σ' G' => Same (hid [r] G) (hid [r] G') ∧ G' r = some (.lst (List.map V.int (rowMid es w i k (i + m)))) ∧ ∃ k4, σ' = [some (.ref a), some (.ref p), some (.int (i : Nat)), some (.int (k : Nat)), k4]) ⟨Same.refl _, by rw [rowk, Nat.add_zero, mid_from], _, rfl⟩ ?_ ?_
    · rintro m σ' G' hm ⟨s', er, k4, rfl⟩
      have ga := hid_same _ _ _ _ (s' _ _ ga0)
      have gu := hid_same _ _ _ _ (s' _ _ gu0)
      have i42 : i + m < 42 := by omega
      have lmid : (rowMid es w i k (i + m)).length = 42 := by unfold rowMid; simp
      rw [show (i : Int) + (m : Nat) = ((i + m : Nat) : Int) by omega]
      wtm_at "s"
      refine k_gF ga T.K_Giver T.N_Giver_upto hif ?_
      wtm_at "s"
      refine k_ixL (sl gu) (atI_nat (by rw [List.getElem?_map, hr]; rfl)) ?_
      wtm_at "s"
      refine k_getI (ns := rowMid es w i k (i + m)) (sl er) (by omega) (by omega) ?_
      rw [Int.toNat_natCast, List.getD_eq_getElem?_getD, mid_get i42]
      wtm_at "s"
      refine k_setL er (j := i + m) (by unfold ixN; rw [if_pos (by omega)]; simp [lmid]; omega) ?_
      refine ⟨by rw [hid_upd (by simp)]; exact s', ?_, _, rfl⟩
      rw [upd_same, ← Nat.add_assoc, ← mid_set i42 (by omega) on, List.map_set]; rfl
    · rintro σ' G' ⟨s', er, k4, rfl⟩
      refine ⟨sG.trans (hid_more s' (fun x hx => by rw [List.mem_singleton.mp hx]; exact rin)), fun t r' hr' => ?_, _, _, rfl⟩
      by_cases c : t = k
      · subst c
        obtain rfl : r' = r := Option.some.inj (hr'.symm.trans hr)
        rw [er, if_pos (by omega), mid_end (by omega)]
      · have ne : r' ∉ [r] := fun z => by
          have e := List.mem_singleton.mp z
          subst e
          exact c (nodup_inj nd hr' hr)
        have := s' r' _ (by rw [hid_ne ne]; exact rows t r' hr')
        rw [hid_same _ _ _ _ this]
        by_cases d : (t : Int) < w.1 + (j : Nat)
        · rw [if_pos d, if_pos (by omega)]
        · rw [if_neg d, if_neg (by omega)]
  · rintro σ' G ⟨sG, rows, k3, k4, rfl⟩
    wtm_at "s"
    refine q G sG ⟨⟨dx, fs, hid_same _ _ _ _ (sG _ _ hia'), hif⟩, hid_same _ _ _ _ (sG _ _ hup'), hlen, fun t r hr => ?_⟩
    rw [rows t r hr, List.length_map, tiesI_len]
    split
    · rfl
    · rw [row_off (fun z => by have := z.2; omega)]
abbrev sp_Giver_counted_in (K : PySem.W.Frag) (A : Ad) : Sp := fun vs H Q E => ∃ v0 v1 v2, vs = [v0, v1, v2] ∧ pr_Giver_counted_in K A v0 v1 v2 H Q E
theorem ok_Giver_counted_in (T : Txt K mg A) : FnOk P w K mg base CX0 1 A.a_Giver_counted_in A.d_Giver_counted_in ["self", "ties", "i"] (sp_Giver_counted_in K A) := by
  refine T.F_Giver_counted_in.ok sc_Giver_counted_in (fun vs H Q E h => by obtain ⟨v0, v1, v2, rfl, _⟩ := h; rfl) (fun cdv A0 outer s H vs Q E hr h => ?_)
  obtain ⟨v0, v1, v2, rfl, h⟩ := h
  exact ⟨t_Giver_counted_in K A, (pss_one (ps_for PassesOwn.never rfl (pi_list (pv 1)) (pg_name (i := 3) sc_Giver_counted_in.nd rfl (Or.inl rfl))
      (pss_one (ps_for PassesOwn.never rfl (pi_range2 (by rfl) T.z_range (pa_cons (pv 2) (pa_cons (pe_op op_add (pe_glob (v := .int 40) (by rfl) T.c_MOST_WAYS ⟨_, rfl⟩) pe_int) pa_nil))) (pg_name (i := 4) sc_Giver_counted_in.nd rfl (Or.inl rfl))
      (pss_one (q_augL (pe_ix ix_list (pe_fld (pv 0) (by rfl)) (pv 3) (fun _ _ => rfl)) (pv 4) pe_int)))))), pure_Giver_counted_in T h⟩


/-- one of the level's hues is free -/
theorem free_hue {es : List Ent} {w : Int × Int} {i : Nat} (g : GoodE (es ++ [(w, i)])) (hs : List Int) : ∃ h ∈ lvHues i, ∀ k v, es[k]? = some (v, i) → meetI v w → hs.getD k 0 ≠ h := by
  have hn : (es ++ [(w, i)])[es.length]? = some (w, i) := by rw [List.getElem?_append_right (Nat.le_refl _)]; simp
  have up : ∀ k v, es[k]? = some (v, i) → (es ++ [(w, i)])[k]? = some (v, i) ∧ k < es.length := fun k v h => by
    have hk := (List.getElem?_eq_some_iff.mp h).1
    exact ⟨by rw [List.getElem?_append_left hk]; exact h, hk⟩
  by_cases c : i = 1
  · subst c
    exact ⟨0, by unfold lvHues; simp, fun k v hk hm => absurd (one_alone g hn (up k v hk).1 (up k v hk).2 hm) id⟩
  · have eL : lvHues i = [3 * (i : Int) - 5, 3 * (i : Int) - 4, 3 * (i : Int) - 3] := by unfold lvHues; rw [if_neg c]
    refine Classical.byContradiction fun z => ?_
    have ex : ∀ h ∈ lvHues i, ∃ k v, es[k]? = some (v, i) ∧ meetI v w ∧ hs.getD k 0 = h := fun h hh => Classical.byContradiction fun y => z ⟨h, hh, fun k v h1 h2 h3 => y ⟨k, v, h1, h2, h3⟩⟩
    rw [eL] at ex
    obtain ⟨a, x, a1, a2, a3⟩ := ex (3 * (i : Int) - 5) (by simp)
    obtain ⟨b, y, b1, b2, b3⟩ := ex (3 * (i : Int) - 4) (by simp)
    obtain ⟨d, u, d1, d2, d3⟩ := ex (3 * (i : Int) - 3) (by simp)
    have la := (up a x a1).2
    have lb := (up b y b1).2
    have ld := (up d u d1).2
    refine no_three g hn (up a x a1).1 (up b y b1).1 (up d u d1).1 (by omega) (by omega) (by omega) a2 b2 d2 (fun e => ?_) (fun e => ?_) (fun e => ?_)
    · rw [e, b3] at a3; omega
    · rw [e, d3] at a3; omega
    · rw [e, d3] at b3; omega
theorem ss_ext : ∀ {xs ys : List Int}, xs.Pairwise (· < ·) → ys.Pairwise (· < ·) → (∀ t, t ∈ xs ↔ t ∈ ys) → xs = ys
  | [], [], _, _, _ => rfl
  | [], y :: ys, _, _, h => by have := (h y).mpr List.mem_cons_self; cases this
  | x :: xs, [], _, _, h => by have := (h x).mp List.mem_cons_self; cases this
  | x :: xs, y :: ys, h1, h2, h => by
    obtain ⟨a1, a2⟩ := List.pairwise_cons.mp h1
    obtain ⟨b1, b2⟩ := List.pairwise_cons.mp h2
    have e : x = y := by
      rcases List.mem_cons.mp ((h x).mp List.mem_cons_self) with e | e
      · exact e
      · rcases List.mem_cons.mp ((h y).mpr List.mem_cons_self) with e' | e'
        · exact e'.symm
        · have := b1 _ e; have := a1 _ e'; omega
    subst e
    congr 1
    refine ss_ext a2 b2 fun t => ?_
    constructor
    · intro ht
      rcases List.mem_cons.mp ((h t).mp (List.mem_cons_of_mem _ ht)) with e | e
      · have := a1 _ ht; omega
      · exact e
    · intro ht
      rcases List.mem_cons.mp ((h t).mpr (List.mem_cons_of_mem _ ht)) with e | e
      · have := b1 _ ht; omega
      · exact e
theorem tiesI_srt (w : Int × Int) : (tiesI w).Pairwise (· < ·) := by
  unfold tiesI
  rw [List.pairwise_map]
  exact List.pairwise_lt_range.imp fun h => by omega
theorem line_ties {n a b : Int} {ns : List Int} (h : TiesOf (.line n) a b ns) : ns = tiesI (min a b, max a b - 1) := by
  refine ss_ext h.srt (tiesI_srt _) fun t => ?_
  rw [tiesI_mem, h.mem]
  show (min a b ≤ t ∧ t < max a b) ↔ _
  simp only
  omega


instance (w v : Int × Int) : Decidable (meetI w v) := inferInstanceAs (Decidable (max w.1 v.1 ≤ min w.2 v.2))
/-- the places of a Giver -/
structure Gv where
  a : Addr
  dx : Addr
  nt : Addr
  cm : Addr
  ln : Addr
  gv : Addr
  lv : Addr
  ow : Addr
  up : Addr
  rs : List Addr
def Gv.cells (g : Gv) : List Addr := g.up :: (g.rs ++ [g.ow, g.lv, g.gv, g.ln, g.cm, g.nt, g.a])
/-- a Giver to which ways have come -/
structure GvAt (K : PySem.W.Frag) (A : Ad) (H : Hp) (g : Gv) (n : Int) (ws : List (Int × Int)) (es : List Ent) (hs os : List Int) : Prop where
  nd : g.cells.Nodup
  n2 : 2 ≤ n
  n60 : n ≤ 60
  ins : H g.a = some (.ins A.c_Giver g.dx (gvF g.nt g.cm g.ln g.gv g.lv g.ow g.up))
  net : H g.nt = some (.tup [.str (Str.ofString "line"), .int n])
  come : ∃ ys, H g.cm = some (.lst ys) ∧ DpAll K (hid g.cells H) ys (ws.map dPair)
  lain : ∃ zs : List Addr, H g.ln = some (.lst (zs.map V.ref)) ∧ zs.length = es.length ∧ ∀ (k : Nat) z e, zs[k]? = some z → es[k]? = some e → z ∉ g.cells ∧ H z = some (.lst ((tiesI e.1).map V.int))
  given : H g.gv = some (.lst (hs.map V.int))
  lev : H g.lv = some (.lst (List.map V.int (es.map fun e => (e.2 : Int))))
  own : H g.ow = some (.lst (os.map V.int))
  up_ : UpAt K A H g.a g.up g.rs n es
theorem GvAt.same {H H' : Hp} {g : Gv} {n : Int} {ws : List (Int × Int)} {es : List Ent} {hs os : List Int} (h : GvAt K A H g n ws es hs os) (s : Same H H') : GvAt K A H' g n ws es hs os := by
  obtain ⟨h1, h2, h3, h4, h5, ⟨ys, h6, h6'⟩, ⟨zs, h7, h7', h7''⟩, h8, h9, h10, h11⟩ := h
  exact ⟨h1, h2, h3, s _ _ h4, s _ _ h5, ⟨ys, s _ _ h6, dpa_same (hid_mono s) h6'⟩, ⟨zs, s _ _ h7, h7', fun k z e hz he => ⟨(h7'' k z e hz he).1, s _ _ (h7'' k z e hz he).2⟩⟩, s _ _ h8, s _ _ h9, s _ _ h10, h11.same s⟩
/-- what is true of the ways, levels, hues and own ties -/
structure GvOk (n : Int) (ws : List (Int × Int)) (es : List Ent) (hs os : List Int) : Prop where
  good : GoodE es
  tie : es.map (·.1) = ws.map tieW
  wok : ∀ w ∈ ws, isWay (.line n) w.1 w.2
  lh : hs.length = es.length
  lo : os.length = es.length
  hue : ∀ (k : Nat) e h, es[k]? = some e → hs[k]? = some h → h ∈ lvHues e.2
  right : ∀ (j k : Nat) e f, j < k → es[j]? = some e → es[k]? = some f → meetI e.1 f.1 → hs[j]? ≠ hs[k]?
  own : ∀ (k : Nat) e t, es[k]? = some e → os[k]? = some t → OwnOf (es.take k) e.1 e.2 t
theorem snoc_get {α : Type} {l : List α} {x y : α} {k : Nat} (h : (l ++ [x])[k]? = some y) : (k < l.length ∧ l[k]? = some y) ∨ (k = l.length ∧ y = x) := by
  by_cases c : k < l.length
  · rw [List.getElem?_append_left c] at h
    exact .inl ⟨c, h⟩
  · have := (List.getElem?_eq_some_iff.mp h).1
    simp at this
    have e : k = l.length := by omega
    subst e
    rw [List.getElem?_append_right (Nat.le_refl _)] at h
    simp at h
    exact .inr ⟨rfl, h.symm⟩
theorem GvOk.more {n : Int} {ws : List (Int × Int)} {es : List Ent} {hs os : List Int} {a b h t : Int} {i : Nat} (o : GvOk n ws es hs os) (w : isWay (.line n) a b) (l : LevelOf es (tieW (a, b)) i) (hh : h ∈ lvHues i)
    (hr : ∀ (k : Nat) v, es[k]? = some v → meetI v.1 (tieW (a, b)) → hs[k]? ≠ some h) (ho : OwnOf es (tieW (a, b)) i t) : GvOk n (ws ++ [(a, b)]) (es ++ [(tieW (a, b), i)]) (hs ++ [h]) (os ++ [t]) := by
  obtain ⟨g, ti, wok, lh, lo, hue, right, own⟩ := o
  refine ⟨good_more g (tieW_ok w).2.1 l, by rw [List.map_append, List.map_append, ti]; rfl, ?_, by simp [lh], by simp [lo], ?_, ?_, ?_⟩
  · intro v hv
    rcases List.mem_append.mp hv with hv | hv
    · exact wok v hv
    · rw [List.mem_singleton.mp hv]; exact w
  · intro k e x he hx
    rcases snoc_get he with ⟨c, he⟩ | ⟨c, rfl⟩
    · rw [List.getElem?_append_left (by omega)] at hx
      exact hue k e x he hx
    · rcases snoc_get hx with ⟨d, _⟩ | ⟨_, rfl⟩
      · omega
      · exact hh
  · intro j k e f jk he hf m
    rcases snoc_get hf with ⟨c, hf⟩ | ⟨c, rfl⟩
    · rcases snoc_get he with ⟨d, he⟩ | ⟨d, _⟩
      · rw [List.getElem?_append_left (by omega), List.getElem?_append_left (by omega)]
        exact right j k e f jk he hf m
      · omega
    · rcases snoc_get he with ⟨d, he⟩ | ⟨d, _⟩
      · rw [List.getElem?_append_left (by omega)]
        have := hr j e he m
        rw [c, ← lh, List.getElem?_append_right (Nat.le_refl _)]
        simpa using this
      · omega
  · intro k e x he hx
    rcases snoc_get he with ⟨c, he⟩ | ⟨c, rfl⟩
    · rw [List.getElem?_append_left (by omega)] at hx
      rw [List.take_append_of_le_length (by omega)]
      exact own k e x he hx
    · rcases snoc_get hx with ⟨d, _⟩ | ⟨_, rfl⟩
      · omega
      · subst c
        rw [List.take_left]
        exact ho
theorem hid_comm (S T : List Addr) (H : Hp) : hid S (hid T H) = hid T (hid S H) := by
  funext b
  unfold hid
  split <;> split <;> rfl
theorem hid_under {S T : List Addr} {H H' : Hp} (s : Same (hid S H) (hid S H')) : Same (hid S (hid T H)) (hid S (hid T H')) := by
  rw [hid_comm S T H, hid_comm S T H']
  exact hid_mono s
/-- the hue of a way of the level that meets the way -/
def takenAt (es : List Ent) (hs : List Int) (i : Nat) (w : Int × Int) (k : Nat) : Option Int := match es[k]? with
  | some e => if e.2 = i ∧ meetI e.1 w then some (hs.getD k 0) else none
  | none => none
theorem lv_apart {i j : Nat} {h : Int} (i1 : 1 ≤ i) (j1 : 1 ≤ j) (hi : h ∈ lvHues i) (hj : h ∈ lvHues j) : i = j := by
  unfold lvHues at hi hj
  split at hi <;> split at hj <;> simp only [List.mem_cons, List.not_mem_nil, or_false] at hi hj <;> omega
theorem taken_fm (l ts : List Int) : l.filterMap (fun x => if x ∈ ts then none else some (V.int x)) = (l.filter fun x => decide (x ∉ ts)).map V.int := by
  induction l with
  | nil => rfl
  | cons x r ih =>
    by_cases c : x ∈ ts
    · rw [List.filterMap_cons, if_pos c, List.filter_cons, if_neg (by simpa using c)]; exact ih
    · rw [List.filterMap_cons, if_neg c, List.filter_cons, if_pos (by simpa using c), List.map_cons, ← ih]
theorem hue_found {n : Int} {ws : List (Int × Int)} {es : List Ent} {hs os : List Int} {w : Int × Int} {i m : Nat} (o : GvOk n ws es hs os) (w1 : w.1 ≤ w.2) (l : LevelOf es w i) (hm : m = es.length) :
    ∃ hue, hue ∈ lvHues i ∧ (∀ (k : Nat) v, es[k]? = some v → meetI v.1 w → hs[k]? ≠ some hue) ∧ atI (List.filterMap (fun x => if x ∈ (List.range m).filterMap (takenAt es hs i w) then none else some (V.int x)) (lvHues i)) 0 = some (.int hue) := by
  subst hm
  have inT : ∀ (k : Nat) v, es[k]? = some v → v.2 = i → meetI v.1 w → hs.getD k 0 ∈ (List.range es.length).filterMap (takenAt es hs i w) := fun k v hk hv hme => by
    rw [List.mem_filterMap]
    refine ⟨k, List.mem_range.mpr (List.getElem?_eq_some_iff.mp hk).1, ?_⟩
    unfold takenAt
    simp only [hk]
    rw [if_pos ⟨hv, hme⟩]
  have toT : ∀ x, x ∈ (List.range es.length).filterMap (takenAt es hs i w) → ∃ (k : Nat) (v : Int × Int), es[k]? = some (v, i) ∧ meetI v w ∧ hs.getD k 0 = x := fun x hx => by
    obtain ⟨k, hk, e⟩ := List.mem_filterMap.mp hx
    unfold takenAt at e
    split at e
    · rename_i v hv
      split at e
      · rename_i c
        obtain ⟨v1, v2⟩ := v
        obtain ⟨c1, c2⟩ := c
        simp only at c1
        subst c1
        exact ⟨k, v1, hv, c2, by simpa using e⟩
      · cases e
    · cases e
  rw [taken_fm]
  obtain ⟨f, hf, ff⟩ := free_hue (good_more o.good w1 l) hs
  generalize (List.range es.length).filterMap (takenAt es hs i w) = ts at inT toT
  have ne : f ∈ (lvHues i).filter fun x => decide (x ∉ ts) := by
    rw [List.mem_filter]
    refine ⟨hf, by
      simp only [decide_eq_true_eq]
      intro z
      obtain ⟨k, v, h1, h2, h3⟩ := toT f z
      exact ff k v h1 h2 h3⟩
  cases hL : (lvHues i).filter fun x => decide (x ∉ ts) with
  | nil => rw [hL] at ne; cases ne
  | cons h r =>
    have hm : h ∈ (lvHues i).filter fun x => decide (x ∉ ts) := by rw [hL]; exact List.mem_cons_self
    obtain ⟨hm1, hm2⟩ := List.mem_filter.mp hm
    simp only [decide_eq_true_eq] at hm2
    refine ⟨h, hm1, fun k v hk hme e => ?_, by
      have := at_int (ns := h :: r) (i := 0) (by decide) (by simp)
      rw [this]; rfl⟩
    by_cases c : v.2 = i
    · refine hm2 ?_
      have := inT k v hk c hme
      rwa [List.getD_eq_getElem?_getD, e] at this
    · exact c (lv_apart (good_pos o.good v (List.mem_of_getElem? hk)) l.1 (o.hue k v h hk e) hm1)
def pr_Giver_put (K : PySem.W.Frag) (A : Ad) (v0 v1 : V) (H : Hp) (Q : VK) (E : XK) : Prop := ∃ (g : Gv) (n : Int) (T : List Addr) (ws : List (Int × Int)) (es : List Ent) (hs os : List Int) (a b : Int), v0 = .ref g.a ∧ GvAt K A (hid T H) g n ws es hs os ∧ GvOk n ws es hs os ∧ (∀ x ∈ T, H x ≠ none) ∧ Dp K (hid g.cells H) v1 (dPair (a, b)) ∧ es.length ≤ 40 ∧ (¬ isWay (.line n) a b → ∀ d, H d = none → E (.ref A.c_NoWay) (some d) (upd H d (.xd [(Str.ofString "at", .non)]))) ∧ (isWay (.line n) a b → es.length = 40 → E (.ref A.c_TooMany) none H) ∧ (isWay (.line n) a b → es.length < 40 →
  ∀ (h : Int) (i : Nat) (t : Int) H', Same (hid g.cells H) (hid g.cells H') → LevelOf es (tieW (a, b)) i → i ≤ 41 → GvAt K A (hid T H') g n (ws ++ [(a, b)]) (es ++ [(tieW (a, b), i)]) (hs ++ [h]) (os ++ [t]) → GvOk n (ws ++ [(a, b)]) (es ++ [(tieW (a, b), i)]) (hs ++ [h]) (os ++ [t]) → Q (.int h) H')
def t_Giver_put (K : PySem.W.Frag) (A : Ad) (E : XK) : TS :=
  (tSeq (tIfS (tNot (tB (tCall (sp_is_way K) [] E0 (tCons (tFld K (tVar 0) "net") (tCons (tVar 1) tNil))))) (tRaiseO A.c_NoWay (spInit A.c_NoWay (Str.ofString "at")) (tCons (tC .non) tNil) E) tNext)
    (tSeq (tIfS (tTest (tOp rEq (tCB (rLenX K) (tCons (tFld K (tVar 0) "come") tNil)) (tC (.int 40)))) (tRaiseP A.c_TooMany E) tNext)
    (tSeq (tAsg (tCall (sp_ties_on K) [] E0 (tCons (tFld K (tVar 0) "net") (tCons (tVar 1) tNil))) (gName 2))
    (tSeq (tAsg (tMeth A.c_Giver "level_for" (sp_Giver_level_for K A) [] E0 (tVar 0) (tCons (tVar 2) tNil)) (gName 3))
    (tSeq (tAsg (tLc (iRng1 (tCons (tCB (rLenX K) (tCons (tFld K (tVar 0) "come") tNil)) tNil)) (gName 6) (tAnd (tTest (tOp rEq (tOp (rIxL K) (tFld K (tVar 0) "level") (tVar 6)) (tVar 3))) (tB (tCall (sp_meet K) [] E0 (tCons (tVar 2) (tCons (tOp (rIxL K) (tFld K (tVar 0) "lain") (tVar 6)) tNil))))) (tOp (rIxL K) (tFld K (tVar 0) "given") (tVar 6)) [6]) (gName 4))
    (tSeq (tAsg (tOp (rIxL K) (tLc (iList K (tCall (sp_hues_of K) [] E0 (tCons (tVar 3) tNil))) (gName 7) (tTest (tOp (rIn K true) (tVar 7) (tVar 4))) (tVar 7) [7]) (tC (.int 0))) (gName 5))
    (tSeq (tDrop (tBM K "list" rAppend (tFld K (tVar 0) "own") (tCons (tMeth A.c_Giver "own_for" (sp_Giver_own_for K A) [] E0 (tVar 0) (tCons (tVar 2) (tCons (tVar 3) tNil))) tNil)))
    (tSeq (tDrop (tMeth A.c_Giver "counted_in" (sp_Giver_counted_in K A) [] E0 (tVar 0) (tCons (tVar 2) (tCons (tVar 3) tNil))))
    (tSeq (tDrop (tBM K "list" rAppend (tFld K (tVar 0) "come") (tCons (tTup (tCons (tOp (rIxT K) (tVar 1) (tC (.int 0))) (tCons (tOp (rIxT K) (tVar 1) (tC (.int 1))) tNil))) tNil)))
    (tSeq (tDrop (tBM K "list" rAppend (tFld K (tVar 0) "lain") (tCons (tVar 2) tNil)))
    (tSeq (tDrop (tBM K "list" rAppend (tFld K (tVar 0) "given") (tCons (tVar 5) tNil)))
    (tSeq (tDrop (tBM K "list" rAppend (tFld K (tVar 0) "level") (tCons (tVar 3) tNil)))
    (tRet (tVar 5))))))))))))))
theorem pure_Giver_put (T : Txt K mg A) {v0 v1 : V} {H : Hp} {Q : VK} {E : XK} (h : pr_Giver_put K A v0 v1 H Q E) : t_Giver_put K A E ⟨fun _ H' => Q .non H', Q, fun _ _ => False, fun _ _ => False⟩ [some v0, some v1, none, none, none, none, none, none] H := by
  obtain ⟨g, n, TT, ws, es, hs, os, a, b, rfl, gaT, gok, hT, dw, le40, qn, qt, q⟩ := h
  have ga := gaT.same (hid_same _ _)
  have dw0 := dp_same (hid_same _ _) dw
  obtain ⟨pw, rfl, hw⟩ := dp_pair dw
  have inT : ∀ x o, hid TT H x = some o → x ∉ TT := fun x o h => (hid_some h).1
  have newT : ∀ x, H x = none → x ∉ TT := fun x h z => hT x z h
  have dnet : ∀ H', Same H H' → Dp K H' (.ref g.nt) (Net.line n).d := fun H' s => .tup (stp (s _ _ ga.net)) (.cons (.str _) (.cons (.int _) .nil))
  have nok : (Net.line n).ok := ⟨ga.n2, ga.n60⟩
  obtain ⟨ys, ecm, dys⟩ := ga.come
  obtain ⟨zs, eln, lzs, ezs⟩ := ga.lain
  have ly : ys.length = es.length := by
    have e1 := dpa_len dys
    have e2 := congrArg List.length gok.tie
    simp only [List.length_map] at e1 e2
    omega
  unfold t_Giver_put
  wtm_at "s"
  refine k_gF ga.ins T.K_Giver T.N_Giver_net rfl ?_
  wtm_at "s"
  refine ⟨_, _, rfl, .line n, a, b, dnet _ (Same.refl _), dw0, ?_⟩
  wtm_at "s"
  refine k_itn (fun wno => ?_) (fun wok => ?_)
  · refine k_raiseO (f := Str.ofString "at") (v := .non) (fun R h => ?_) (fun d nd => qn wno d nd)
    wtm_at "s"; exact h
  wtm_at "s"
  refine k_gF ga.ins T.K_Giver T.N_Giver_come rfl ?_
  by_cases c40 : es.length = 40
  · wtm_at "s"
    exact qt wok c40
  have le : es.length < 40 := by omega
  replace q := q wok le
  obtain ⟨w0, w1, w2⟩ := tieW_ok wok
  wtm_at "s"
  refine k_gF ga.ins T.K_Giver T.N_Giver_net rfl ?_
  wtm_at "s"
  refine ⟨_, _, rfl, .line n, a, b, dnet _ (Same.refl _), dw0, nok, wok, fun p ns H1 np s1 e1 tn => ?_⟩
  obtain rfl := line_ties tn
  change H1 p = some (.lst (List.map V.int (tiesI (tieW (a, b))))) at e1
  wtm_at "s"
  refine k_mF (s1 _ _ ga.ins) rfl ?_
  wtm_at "s"
  refine ⟨_, _, rfl, g.a, g.up, p, g.rs, n, es, tieW (a, b), rfl, rfl, ga.up_.same s1, sl e1, w0, w1, w2, ga.n60, by omega, fun i H2 lvl hi s2 => ?_⟩
  have s02 := s1.trans s2
  have i1 := lvl.1
  have e2 := s2 _ _ e1
  wtm_at "s"
  refine k_gF (s02 _ _ ga.ins) T.K_Giver T.N_Giver_come rfl ?_
  wtm_at "s"
  refine lc_pureR (by omega) (fun k => (takenAt es hs i (tieW (a, b)) k).map V.int) ?_ (fun D H3 nD s3 eD => ?_)
  · intro k H' hk sm R R0 h1 h2
    have hk' : k < es.length := by omega
    obtain ⟨e, he⟩ : ∃ e, es[k]? = some e := ⟨es[k], List.getElem?_eq_getElem hk'⟩
    obtain ⟨z, hz⟩ : ∃ z, zs[k]? = some z := ⟨zs[k]'(by omega), List.getElem?_eq_getElem (by omega)⟩
    obtain ⟨_, ez⟩ := ezs k z e hz he
    have s0 := s02.trans sm
    simp only [takenAt, he] at h1 h2
    rw [Int.zero_add]
    wtm_at "s"
    refine k_gF (s0 _ _ ga.ins) T.K_Giver T.N_Giver_level rfl ?_
    wtm_at "s"
    refine k_ixN (sl (s0 _ _ ga.lev)) (by rw [List.getElem?_map, he]; rfl) ?_
    wtm_at "s"
    refine k_it (fun c1 => ?_) (fun c1 => ?_)
    · wtm_at "s"
      refine k_gF (s0 _ _ ga.ins) T.K_Giver T.N_Giver_lain rfl ?_
      wtm_at "s"
      refine k_ixL (sl (s0 _ _ eln)) (atI_nat (by rw [List.getElem?_map, hz]; rfl)) ?_
      wtm_at "s"
      have we := (gok.good k e.1 e.2 he).1
      refine ⟨_, _, rfl, p, z, tieW (a, b), e.1, rfl, rfl, sl ((s2.trans sm) _ _ e1), sl (s0 _ _ ez), w1, we, ?_⟩
      wtm_at "s"
      refine k_it (fun c2 => ?_) (fun c2 => ?_)
      · wtm_at "s"
        refine k_gF (s0 _ _ ga.ins) T.K_Giver T.N_Giver_given rfl ?_
        wtm_at "s"
        refine k_ixI (sl (s0 _ _ ga.given)) (by omega) (by have := gok.lh; omega) ?_
        rw [Int.toNat_natCast]
        have c1' : (e.2 : Int) = i := c1
        exact h1 _ (by rw [if_pos ⟨by omega, by unfold meetI; omega⟩]; rfl)
      · exact h2 (by rw [if_neg fun z => c2 (by have := z.2; unfold meetI at this; omega)]; rfl)
    · exact h2 (by rw [if_neg fun z => c1 (show (e.2 : Int) = i by have := z.1; omega)]; rfl)
  rw [← List.map_filterMap, Int.toNat_natCast] at eD
  wtm_at "s"
  refine ⟨_, rfl, i, rfl, i1, fun p4 H4 np4 s4 e4 => ?_⟩
  wtm_at "s"
  refine lc_pure (sl e4) (lvHues i) (by simp) (by unfold lvHues; split <;> simp) (fun x => if x ∈ (List.range ys.length).filterMap (takenAt es hs i (tieW (a, b))) then none else some (V.int x)) ?_ (fun D2 H5 nD2 s5 eD2 => ?_)
  · intro j x y H' hx hy sm R R0 h1 h2
    rw [List.getElem?_map, hy] at hx
    cases hx
    wtm_at "s"
    refine k_itn (fun c => ?_) (fun c => ?_)
    · wtm_at "s"
      exact h1 _ (if_neg c)
    · exact h2 (if_pos c)
  obtain ⟨hue, hh, hfree, hat0⟩ := hue_found gok w1 lvl ly
  wtm_at "s"
  refine k_ixL (sl eD2) hat0 ?_
  have s25 := s3.trans (s4.trans s5)
  have s05 := s02.trans s25
  have e5 := s25 _ _ e2
  clear hat0 eD2 nD2 eD e4 np4 nD
  wtm_at "s"
  refine k_gF (s05 _ _ ga.ins) T.K_Giver T.N_Giver_own rfl ?_
  refine k_tyL (sl (s05 _ _ ga.own)) ?_
  wtm_at "s"
  refine k_mF (s05 _ _ ga.ins) rfl ?_
  wtm_at "s"
  refine ⟨_, _, _, rfl, g.a, g.up, p, g.rs, n, es, tieW (a, b), i, rfl, rfl, rfl, ga.up_.same s05, sl e5, w0, w1, w2, ga.n60, by omega, lvl, by omega, good_pos gok.good, fun t ho => ?_⟩
  wtm_at "s"
  refine k_append (s05 _ _ ga.own) (by rw [List.length_map]; have := gok.lo; omega) ?_
  wtm_at "s"
  have nd := ga.nd
  unfold Gv.cells at nd
  simp only [List.nodup_cons, List.nodup_append, List.mem_append, List.mem_cons, List.not_mem_nil, or_false, not_or, not_false_eq_true, List.nodup_nil, and_true] at nd
  obtain ⟨⟨u_rs, u_ow, u_lv, u_gv, u_ln, u_cm, u_nt, u_a⟩, nrs, ⟨⟨ow_lv, ow_gv, ow_ln, ow_cm, ow_nt, ow_a⟩, ⟨lv_gv, lv_ln, lv_cm, lv_nt, lv_a⟩, ⟨gv_ln, gv_cm, gv_nt, gv_a⟩, ⟨ln_cm, ln_nt, ln_a⟩, ⟨cm_nt, cm_a⟩, nt_a⟩, dis⟩ := nd
  have ow_rs : g.ow ∉ g.rs := fun z => dis _ z _ (.inl rfl) rfl
  have lv_rs : g.lv ∉ g.rs := fun z => dis _ z _ (.inr (.inl rfl)) rfl
  have gv_rs : g.gv ∉ g.rs := fun z => dis _ z _ (.inr (.inr (.inl rfl))) rfl
  have ln_rs : g.ln ∉ g.rs := fun z => dis _ z _ (.inr (.inr (.inr (.inl rfl)))) rfl
  have cm_rs : g.cm ∉ g.rs := fun z => dis _ z _ (.inr (.inr (.inr (.inr (.inl rfl))))) rfl
  have nt_rs : g.nt ∉ g.rs := fun z => dis _ z _ (.inr (.inr (.inr (.inr (.inr (.inl rfl)))))) rfl
  have a_rs : g.a ∉ g.rs := fun z => dis _ z _ (.inr (.inr (.inr (.inr (.inr (.inr rfl)))))) rfl
  have inC : ∀ x o, hid TT H x = some o → H x ≠ none := fun x o h => by rw [hid_same _ _ _ _ h]; simp
  have pC : p ∉ g.cells := fun z => by
    unfold Gv.cells at z
    simp only [List.mem_append, List.mem_cons, List.not_mem_nil, or_false] at z
    rcases z with rfl | z | rfl | rfl | rfl | rfl | rfl | rfl | rfl
    · rw [ga.up_.up_] at np; cases np
    · obtain ⟨j, hj⟩ := List.mem_iff_getElem?.mp z
      rw [ga.up_.row j p hj] at np; cases np
    · rw [ga.own] at np; cases np
    · rw [ga.lev] at np; cases np
    · rw [ga.given] at np; cases np
    · rw [eln] at np; cases np
    · rw [ecm] at np; cases np
    · rw [ga.net] at np; cases np
    · rw [ga.ins] at np; cases np
  have cin : ∀ x, x ∈ g.rs ∨ x = g.up ∨ x = g.ow ∨ x = g.lv ∨ x = g.gv ∨ x = g.ln ∨ x = g.cm ∨ x = g.nt ∨ x = g.a → x ∈ g.cells := fun x h => by
    unfold Gv.cells
    simp only [List.mem_append, List.mem_cons, List.not_mem_nil, or_false]
    rcases h with h | h | h
    · exact .inr (.inl h)
    · exact .inl h
    · exact .inr (.inr h)
  have p_ow : p ≠ g.ow := fun e => pC (cin p (.inr (.inr (.inl e))))
  have p_rs : p ∉ g.rs := fun e => pC (cin p (.inl e))
  have mid : UpAt K A (upd H5 g.ow (.lst (List.map V.int os ++ [.int t]))) g.a g.up g.rs n es := by
    obtain ⟨⟨dx, fs, h1, h2⟩, h3, h4, h5⟩ := ga.up_.same s05
    refine ⟨⟨dx, fs, ?_, h2⟩, ?_, h4, fun j r hr => ?_⟩
    · rw [upd_ne (Ne.symm ow_a)]; exact h1
    · rw [upd_ne u_ow]; exact h3
    · rw [upd_ne (fun e => ow_rs (by rw [← e]; exact List.mem_of_getElem? hr))]; exact h5 j r hr
  have keep6 : ∀ x o, x ≠ g.ow → H5 x = some o → upd H5 g.ow (.lst (List.map V.int os ++ [.int t])) x = some o := fun x o n h => by rw [upd_ne n]; exact h
  have S6 : Same (hid g.cells H) (hid g.cells (upd H5 g.ow (.lst (List.map V.int os ++ [.int t])))) := by
    rw [hid_upd (cin _ (.inr (.inr (.inl rfl))))]; exact hid_mono s05
  have e6o : upd H5 g.ow (.lst (List.map V.int os ++ [.int t])) g.ow = some (.lst (List.map V.int (os ++ [t]))) := by rw [upd_same, List.map_append]; rfl
  generalize upd H5 g.ow (.lst (List.map V.int os ++ [.int t])) = H6 at mid keep6 S6 e6o ⊢
  refine k_mF (keep6 _ _ (Ne.symm ow_a) (s05 _ _ ga.ins)) rfl ?_
  wtm_at "s"
  refine ⟨_, _, _, rfl, g.a, g.up, p, g.rs, n, es, tieW (a, b), i, rfl, rfl, rfl, mid, keep6 _ _ p_ow e5, a_rs, u_rs, p_rs, nrs, w0, w1, w2, ga.n60, by omega, by omega, fun H7 S7 up7 => ?_⟩
  have keep7 : ∀ x o, x ≠ g.ow → x ∉ g.rs → H5 x = some o → H7 x = some o := fun x o n1 n2 h => keeps S7 (keep6 x o n1 h) n2
  have S07 : Same (hid g.cells H) (hid g.cells H7) := S6.trans (hid_more S7 fun x hx => cin x (.inl hx))
  wtm_at "s"
  refine k_gF (keep7 _ _ (Ne.symm ow_a) a_rs (s05 _ _ ga.ins)) T.K_Giver T.N_Giver_come rfl ?_
  have ecm7 := keep7 _ _ (Ne.symm ow_cm) cm_rs (s05 _ _ ecm)
  refine k_tyL (sl ecm7) ?_
  have hw7 : SqT K H7 pw [.int a, .int b] := same_seqT (S07.trans (hid_same _ _)) hw
  wtm_at "s"
  refine kT (by simp) (fun r H8 nr s8 er => ?_)
  have kp8 : ∀ x o, x ≠ g.ow → x ∉ g.rs → H5 x = some o → H8 x = some o := fun x o n1 n2 h => s8 _ _ (keep7 x o n1 n2 h)
  have S08 := S07.trans (hid_mono (S := g.cells) s8)
  have ecm8 := s8 _ _ ecm7
  wtm_at "s"
  refine k_append ecm8 (by omega) ?_
  have ins8 := kp8 _ _ (Ne.symm ow_a) a_rs (s05 _ _ ga.ins)
  have eln8 := kp8 _ _ (Ne.symm ow_ln) ln_rs (s05 _ _ eln)
  have egv8 := kp8 _ _ (Ne.symm ow_gv) gv_rs (s05 _ _ ga.given)
  have elv8 := kp8 _ _ (Ne.symm ow_lv) lv_rs (s05 _ _ ga.lev)
  wtm_at "s"
  refine k_gF (by rw [upd_ne (Ne.symm cm_a)]; exact ins8) T.K_Giver T.N_Giver_lain rfl ?_
  refine k_tyL (sl (show upd H8 g.cm (.lst (ys ++ [.ref r])) g.ln = _ by rw [upd_ne ln_cm]; exact eln8)) ?_
  wtm_at "s"
  refine k_append (show upd H8 g.cm (.lst (ys ++ [.ref r])) g.ln = _ by rw [upd_ne ln_cm]; exact eln8) (by rw [List.length_map]; omega) ?_
  wtm_at "s"
  refine k_gF (by rw [upd_ne (Ne.symm ln_a), upd_ne (Ne.symm cm_a)]; exact ins8) T.K_Giver T.N_Giver_given rfl ?_
  have x1 : upd (upd H8 g.cm (.lst (ys ++ [.ref r]))) g.ln (.lst (zs.map V.ref ++ [.ref p])) g.gv = some (.lst (hs.map V.int)) := by rw [upd_ne gv_ln, upd_ne gv_cm]; exact egv8
  refine k_tyL (sl x1) ?_
  wtm_at "s"
  refine k_append x1 (by rw [List.length_map]; have := gok.lh; omega) ?_
  wtm_at "s"
  refine k_gF (by rw [upd_ne (Ne.symm gv_a), upd_ne (Ne.symm ln_a), upd_ne (Ne.symm cm_a)]; exact ins8) T.K_Giver T.N_Giver_level rfl ?_
  have x2 : upd (upd (upd H8 g.cm (.lst (ys ++ [.ref r]))) g.ln (.lst (zs.map V.ref ++ [.ref p]))) g.gv (.lst (hs.map V.int ++ [.int hue])) g.lv = some (.lst (List.map V.int (es.map fun e => (e.2 : Int)))) := by rw [upd_ne lv_gv, upd_ne lv_ln, upd_ne lv_cm]; exact elv8
  refine k_tyL (sl x2) ?_
  wtm_at "s"
  refine k_append x2 (by rw [List.length_map, List.length_map]; omega) ?_
  wtm_at "s"
  have fin : ∀ x o, x ≠ g.cm → x ≠ g.ln → x ≠ g.gv → x ≠ g.lv → H8 x = some o → upd (upd (upd (upd H8 g.cm (.lst (ys ++ [.ref r]))) g.ln (.lst (zs.map V.ref ++ [.ref p]))) g.gv (.lst (hs.map V.int ++ [.int hue]))) g.lv (.lst (List.map V.int (es.map fun e => (e.2 : Int)) ++ [.int i])) x = some o := fun x o n1 n2 n3 n4 h => by
    rw [upd_ne n4, upd_ne n3, upd_ne n2, upd_ne n1]; exact h
  have f_cm : upd (upd (upd (upd H8 g.cm (.lst (ys ++ [.ref r]))) g.ln (.lst (zs.map V.ref ++ [.ref p]))) g.gv (.lst (hs.map V.int ++ [.int hue]))) g.lv (.lst (List.map V.int (es.map fun e => (e.2 : Int)) ++ [.int i])) g.cm = some (.lst (ys ++ [.ref r])) := by
    rw [upd_ne (Ne.symm lv_cm), upd_ne (Ne.symm gv_cm), upd_ne (Ne.symm ln_cm), upd_same]
  have f_ln : upd (upd (upd (upd H8 g.cm (.lst (ys ++ [.ref r]))) g.ln (.lst (zs.map V.ref ++ [.ref p]))) g.gv (.lst (hs.map V.int ++ [.int hue]))) g.lv (.lst (List.map V.int (es.map fun e => (e.2 : Int)) ++ [.int i])) g.ln = some (.lst ((zs ++ [p]).map V.ref)) := by
    rw [upd_ne (Ne.symm lv_ln), upd_ne (Ne.symm gv_ln), upd_same, List.map_append]; rfl
  have f_gv : upd (upd (upd (upd H8 g.cm (.lst (ys ++ [.ref r]))) g.ln (.lst (zs.map V.ref ++ [.ref p]))) g.gv (.lst (hs.map V.int ++ [.int hue]))) g.lv (.lst (List.map V.int (es.map fun e => (e.2 : Int)) ++ [.int i])) g.gv = some (.lst ((hs ++ [hue]).map V.int)) := by
    rw [upd_ne (Ne.symm lv_gv), upd_same, List.map_append]; rfl
  have f_lv : upd (upd (upd (upd H8 g.cm (.lst (ys ++ [.ref r]))) g.ln (.lst (zs.map V.ref ++ [.ref p]))) g.gv (.lst (hs.map V.int ++ [.int hue]))) g.lv (.lst (List.map V.int (es.map fun e => (e.2 : Int)) ++ [.int i])) g.lv = some (.lst (List.map V.int ((es ++ [(tieW (a, b), i)]).map fun e => (e.2 : Int)))) := by
    rw [upd_same, List.map_append, List.map_append]; rfl
  have SF : Same (hid g.cells H) (hid g.cells (upd (upd (upd (upd H8 g.cm (.lst (ys ++ [.ref r]))) g.ln (.lst (zs.map V.ref ++ [.ref p]))) g.gv (.lst (hs.map V.int ++ [.int hue]))) g.lv (.lst (List.map V.int (es.map fun e => (e.2 : Int)) ++ [.int i])))) := by
    rw [hid_upd (cin _ (.inr (.inr (.inr (.inl rfl))))), hid_upd (cin _ (.inr (.inr (.inr (.inr (.inl rfl)))))), hid_upd (cin _ (.inr (.inr (.inr (.inr (.inr (.inl rfl))))))), hid_upd (cin _ (.inr (.inr (.inr (.inr (.inr (.inr (.inl rfl)))))))) ]
    exact S08
  generalize upd (upd (upd (upd H8 g.cm (.lst (ys ++ [.ref r]))) g.ln (.lst (zs.map V.ref ++ [.ref p]))) g.gv (.lst (hs.map V.int ++ [.int hue]))) g.lv (.lst (List.map V.int (es.map fun e => (e.2 : Int)) ++ [.int i])) = HF at fin f_cm f_ln f_gv f_lv SF ⊢
  have rC : r ∉ g.cells := fun z => by
    have key : ∀ x o, H7 x = some o → r ≠ x := fun x o h e => by rw [e, h] at nr; cases nr
    unfold Gv.cells at z
    simp only [List.mem_append, List.mem_cons, List.not_mem_nil, or_false] at z
    rcases z with z | z | z | z | z | z | z | z | z
    · exact key _ _ up7.up_ z
    · obtain ⟨j, hj⟩ := List.mem_iff_getElem?.mp z
      exact key _ _ (up7.row j r hj) rfl
    · exact key _ _ (keeps S7 e6o ow_rs) z
    · exact key _ _ (keep7 _ _ (Ne.symm ow_lv) lv_rs (s05 _ _ ga.lev)) z
    · exact key _ _ (keep7 _ _ (Ne.symm ow_gv) gv_rs (s05 _ _ ga.given)) z
    · exact key _ _ (keep7 _ _ (Ne.symm ow_ln) ln_rs (s05 _ _ eln)) z
    · exact key _ _ ecm7 z
    · exact key _ _ (keep7 _ _ (Ne.symm ow_nt) nt_rs (s05 _ _ ga.net)) z
    · exact key _ _ (keep7 _ _ (Ne.symm ow_a) a_rs (s05 _ _ ga.ins)) z
  have notC : ∀ x o, x ∉ g.cells → H5 x = some o → HF x = some o := fun x o nx h => fin x o (fun e => nx (cin x (.inr (.inr (.inr (.inr (.inr (.inr (.inl e)))))))))
    (fun e => nx (cin x (.inr (.inr (.inr (.inr (.inr (.inl e)))))))) (fun e => nx (cin x (.inr (.inr (.inr (.inr (.inl e))))))) (fun e => nx (cin x (.inr (.inr (.inr (.inl e)))))) (kp8 x o (fun e => nx (cin x (.inr (.inr (.inl e))))) (fun e => nx (cin x (.inl e))) h)
  have erF : HF r = some (.tup [.int a, .int b]) := fin r _ (fun e => rC (cin r (.inr (.inr (.inr (.inr (.inr (.inr (.inl e)))))))))
    (fun e => rC (cin r (.inr (.inr (.inr (.inr (.inr (.inl e)))))))) (fun e => rC (cin r (.inr (.inr (.inr (.inr (.inl e))))))) (fun e => rC (cin r (.inr (.inr (.inr (.inl e)))))) er
  have r0 : H r = none := by
    have : hid g.cells H7 r = none := by rw [hid_ne rC]; exact nr
    have := S07.free this
    rwa [hid_ne rC] at this
  have tT : ∀ x o, x ∉ TT → HF x = some o → hid TT HF x = some o := fun x o n h => by rw [hid_ne n]; exact h
  obtain ⟨ysT, ecmT, dysT⟩ := gaT.come
  obtain ⟨zsT, elnT, lzsT, ezsT⟩ := gaT.lain
  obtain rfl : ys = ysT := by
    have := (hid_same _ _ _ _ ecmT).symm.trans ecm
    simpa using this.symm
  obtain rfl : zs = zsT := by
    have e := (hid_same _ _ _ _ elnT).symm.trans eln
    have e2 : zsT.map V.ref = zs.map V.ref := by simpa using e
    exact (List.map_inj_right (fun x y h => by cases h; rfl)).mp e2.symm
  refine q hue i t HF SF lvl (by omega) ⟨ga.nd, ga.n2, ga.n60, tT _ _ (inT _ _ gaT.ins) ?_, tT _ _ (inT _ _ gaT.net) ?_, ⟨ys ++ [.ref r], tT _ _ (inT _ _ ecmT) f_cm, ?_⟩, ⟨zs ++ [p], tT _ _ (inT _ _ elnT) f_ln, by simp [lzs], ?_⟩, tT _ _ (inT _ _ gaT.given) f_gv, tT _ _ (inT _ _ gaT.lev) f_lv, tT _ _ (inT _ _ gaT.own) ?_, ?_⟩ (gok.more wok lvl hh hfree ho)
  · exact fin _ _ (Ne.symm cm_a) (Ne.symm ln_a) (Ne.symm gv_a) (Ne.symm lv_a) ins8
  · exact fin _ _ (Ne.symm cm_nt) (Ne.symm ln_nt) (Ne.symm gv_nt) (Ne.symm lv_nt) (kp8 _ _ (Ne.symm ow_nt) nt_rs (s05 _ _ ga.net))
  · rw [List.map_append]
    refine dpa_app (dpa_same (hid_under SF) dysT) (.cons (dp_of_pair (stp ?_)) .nil)
    rw [hid_ne rC]
    exact tT _ _ (newT _ r0) erF
  · intro k z e hz he
    rcases snoc_get hz with ⟨c, hz⟩ | ⟨c, rfl⟩
    · rw [List.getElem?_append_left (by omega)] at he
      obtain ⟨z1, z2⟩ := ezsT k z e hz he
      exact ⟨z1, tT _ _ (inT _ _ z2) (notC z _ z1 (s05 _ _ (ezs k z e hz he).2))⟩
    · rcases snoc_get he with ⟨d, _⟩ | ⟨_, rfl⟩
      · omega
      · exact ⟨pC, tT _ _ (newT _ np) (notC z _ pC e5)⟩
  · exact fin _ _ ow_cm ow_ln ow_gv ow_lv (s8 _ _ (keeps S7 e6o ow_rs))
  · obtain ⟨⟨dx, fs, h1, h2⟩, h3, h4, h5⟩ := up7
    refine ⟨⟨dx, fs, tT _ _ (inT _ _ gaT.ins) (fin _ _ (Ne.symm cm_a) (Ne.symm ln_a) (Ne.symm gv_a) (Ne.symm lv_a) (s8 _ _ h1)), h2⟩, tT _ _ (inT _ _ gaT.up_.up_) (fin _ _ u_cm u_ln u_gv u_lv (s8 _ _ h3)), h4, fun j x hx => ?_⟩
    have hr := List.mem_of_getElem? hx
    exact tT _ _ (inT _ _ (gaT.up_.row j x hx)) (fin _ _ (fun e => cm_rs (e ▸ hr)) (fun e => ln_rs (e ▸ hr)) (fun e => gv_rs (e ▸ hr)) (fun e => lv_rs (e ▸ hr)) (s8 _ _ (h5 j x hx)))
abbrev sp_Giver_put (K : PySem.W.Frag) (A : Ad) : Sp := fun vs H Q E => ∃ v0 v1, vs = [v0, v1] ∧ pr_Giver_put K A v0 v1 H Q E
theorem ok_Giver_put (T : Txt K mg A) : FnOk P w K mg base (L2.CX P w) 3 A.a_Giver_put A.d_Giver_put ["self", "way"] (sp_Giver_put K A) := by
  refine T.F_Giver_put.okX sc_Giver_put (fun vs H Q E h => by obtain ⟨v0, v1, rfl, _⟩ := h; rfl) (fun cdv A0 outer s H vs Q E hr h => ?_)
  obtain ⟨v0, v1, rfl, h⟩ := h
  exact ⟨t_Giver_put K A E, (pss_cons (ps_if (pt_not (pt_val (pe_call (ok_is_way T) (hr.mono (by decide)) (by rfl) T.g_is_way T.F_is_way.kp T.b_is_way .nil pass0 (pa_cons (pe_fld (pv 0) (by rfl)) (pa_cons (pv 1) pa_nil))))) (pss_one (ps_raise rfl (takes_of rfl rfl rfl rfl) (pmk_oex T.o_NoWay T.in_NoWay T.ti_NoWay (ok_init_NoWay T) (hr.mono (by decide)) T.bi_NoWay .nil pass0 (by rfl) T.k_NoWay (pa_cons pe_non pa_nil)))) pss_nil)
      (pss_cons (ps_if (pt_cmpR op_eq (pe_callB q_len (by rfl) T.z_len (by decide +kernel) (pa_cons (pe_fld (pv 0) (by rfl)) pa_nil)) (pe_glob (v := .int 40) (by rfl) T.c_MOST_WAYS ⟨_, rfl⟩) (nomark _)) (pss_one (ps_raise rfl (takes_of rfl rfl rfl rfl) (pmk_own PySem.F.excBase_ValueError T.e_TooMany T.k_TooMany T.p_TooMany (raises_own T.x_TooMany.hs T.t_TooMany) (by rfl)))) pss_nil)
      (pss_cons (ps_set (i := 2) sc_Giver_put.nd rfl (Or.inr rfl) (pe_call (ok_ties_on T) (hr.mono (by decide)) (by rfl) T.g_ties_on T.F_ties_on.kp T.b_ties_on .nil pass0 (pa_cons (pe_fld (pv 0) (by rfl)) (pa_cons (pv 1) pa_nil))))
      (pss_cons (ps_set (i := 3) sc_Giver_put.nd rfl (Or.inr rfl) (pe_meth (pv 0) T.K_Giver T.Me_Giver_level_for (ok_Giver_level_for T) (hr.mono (by decide)) T.b_Giver_level_for .nil pass0 (pa_cons (pv 2) pa_nil)))
      (pss_cons (ps_set (i := 4) sc_Giver_put.nd rfl (Or.inr rfl) (pe_lc (own := [("k", 6)]) (by rfl) sc_Giver_put.nd (pi_range1 (by rfl) T.z_range (pa_cons (pe_callB q_len (by rfl) T.z_len (by decide +kernel) (pa_cons (pe_fld (pv 0) (by rfl)) pa_nil)) pa_nil)) (blkOk_by (own := [("k", 6)]) (N := ["self", "way", "ties", "i", "taken", "hue", "k", "one"]) (sc := defScope s_Giver_put) (by decide +kernel)) (fun _ _ _ _ _ => (pg_name (i := 6) sc_Giver_put.nd rfl (Or.inl rfl))) (fun _ _ _ _ _ => (pts_one (PW.pt (pw_and (pt_cmpR op_eq (pe_ix ix_list (pe_fld (pv 0) (by rfl)) (pv 6) (fun _ _ => rfl)) (pv 3) (nomark _)) (pw_and1 (pt_val (pe_call (ok_meet T) (hr.mono (by decide)) (by rfl) T.g_meet T.F_meet.kp T.b_meet .nil pass0 (pa_cons (pv 2) (pa_cons (pe_ix ix_list (pe_fld (pv 0) (by rfl)) (pv 6) (fun _ _ => rfl)) pa_nil))))))))) (fun _ _ _ _ _ => (pe_ix ix_list (pe_fld (pv 0) (by rfl)) (pv 6) (fun _ _ => rfl)))))
      (pss_cons (ps_set (i := 5) sc_Giver_put.nd rfl (Or.inl rfl) (pe_ix ix_list (pe_lc (own := [("one", 7)]) (by rfl) sc_Giver_put.nd (pi_list (pe_call (ok_hues_of T) (hr.mono (by decide)) (by rfl) T.g_hues_of T.F_hues_of.kp T.b_hues_of .nil pass0 (pa_cons (pv 3) pa_nil))) (blkOk_by (own := [("one", 7)]) (N := ["self", "way", "ties", "i", "taken", "hue", "k", "one"]) (sc := defScope s_Giver_put) (by decide +kernel)) (fun _ _ _ _ _ => (pg_name (i := 7) sc_Giver_put.nd rfl (Or.inl rfl))) (fun _ _ _ _ _ => (pts_one (pt_cmpR op_notIn_seq (pv 7) (pv 4) (by rfl)))) (fun _ _ _ _ _ => (pv 7))) pe_int (fun _ _ => rfl)))
      (pss_cons (ps_expr (pe_bm PySem.F.plainAttrs_list PySem.F.slot_list_append PySem.F.type_list_append mt_append (pe_fld (pv 0) (by rfl)) (pa_cons (pe_meth (pv 0) T.K_Giver T.Me_Giver_own_for (ok_Giver_own_for T) (hr.mono (by decide)) T.b_Giver_own_for .nil pass0 (pa_cons (pv 2) (pa_cons (pv 3) pa_nil))) pa_nil)))
      (pss_cons (ps_expr (pe_meth (pv 0) T.K_Giver T.Me_Giver_counted_in (ok_Giver_counted_in T) (hr.mono (by decide)) T.b_Giver_counted_in .nil pass0 (pa_cons (pv 2) (pa_cons (pv 3) pa_nil))))
      (pss_cons (ps_expr (pe_bm PySem.F.plainAttrs_list PySem.F.slot_list_append PySem.F.type_list_append mt_append (pe_fld (pv 0) (by rfl)) (pa_cons (pe_tup (pa_cons (pe_ix ix_tup (pv 1) pe_int (fun _ _ => rfl)) (pa_cons (pe_ix ix_tup (pv 1) pe_int (fun _ _ => rfl)) pa_nil))) pa_nil)))
      (pss_cons (ps_expr (pe_bm PySem.F.plainAttrs_list PySem.F.slot_list_append PySem.F.type_list_append mt_append (pe_fld (pv 0) (by rfl)) (pa_cons (pv 2) pa_nil)))
      (pss_cons (ps_expr (pe_bm PySem.F.plainAttrs_list PySem.F.slot_list_append PySem.F.type_list_append mt_append (pe_fld (pv 0) (by rfl)) (pa_cons (pv 5) pa_nil)))
      (pss_cons (ps_expr (pe_bm PySem.F.plainAttrs_list PySem.F.slot_list_append PySem.F.type_list_append mt_append (pe_fld (pv 0) (by rfl)) (pa_cons (pv 3) pa_nil)))
      (pss_one (ps_ret (pv 5))))))))))))))), pure_Giver_put T h⟩


theorem GvAt.there {H : Hp} {g : Gv} {n : Int} {ws : List (Int × Int)} {es : List Ent} {hs os : List Int} (h : GvAt K A H g n ws es hs os) : ∀ x ∈ g.cells, H x ≠ none := by
  intro x hx
  obtain ⟨ys, h6, _⟩ := h.come
  obtain ⟨zs, h7, _⟩ := h.lain
  unfold Gv.cells at hx
  simp only [List.mem_append, List.mem_cons, List.not_mem_nil, or_false] at hx
  rcases hx with rfl | hx | rfl | rfl | rfl | rfl | rfl | rfl | rfl
  · rw [h.up_.up_]; simp
  · obtain ⟨j, hj⟩ := List.mem_iff_getElem?.mp hx
    rw [h.up_.row j x hj]; simp
  · rw [h.own]; simp
  · rw [h.lev]; simp
  · rw [h.given]; simp
  · rw [h7]; simp
  · rw [h6]; simp
  · rw [h.net]; simp
  · rw [h.ins]; simp
theorem GvAt.apart {H : Hp} {T : List Addr} {g : Gv} {n : Int} {ws : List (Int × Int)} {es : List Ent} {hs os : List Int} (h : GvAt K A (hid T H) g n ws es hs os) {x : Addr} (hx : x ∈ T) : x ∉ g.cells := fun z => h.there x z (hid_in hx)
/-- a new Giver -/
theorem k_newGv {E : XK} {v1 : V} {H : Hp} {Q : VK} {n : Int} (TT : List Addr) (hT : ∀ x ∈ TT, H x ≠ none) (dn : Dp K H v1 (Net.line n).d) (ok : (Net.line n).ok) (q : ∀ (g : Gv) H', Same H H' → GvAt K A (hid TT H') g n [] [] [] [] → (∀ x ∈ g.cells, H x = none) → Q (.ref g.a) H') : newI A.c_Giver (sp_Giver_init K A) E [v1] H Q := by
  intro x dx nx ndx ne
  have s1 : Same H (hid [x] (upd (upd H dx (.own x)) x (.ins A.c_Giver dx []))) := by
    rw [hid_upd (by simp)]
    intro b o hb
    rw [hid_ne (fun z => by rw [List.mem_singleton.mp z, nx] at hb; cases hb), upd_ne (fun z => by rw [z, ndx] at hb; cases hb)]
    exact hb
  have fre : ∀ r, upd (upd H dx (.own x)) x (.ins A.c_Giver dx []) r = none → H r = none := fun r h => by
    by_cases c : r = x
    · rw [c, upd_same] at h; cases h
    · rw [upd_ne c] at h
      by_cases d : r = dx
      · rw [d, upd_same] at h; cases h
      · rwa [upd_ne d] at h
  refine ⟨_, _, rfl, .inr ⟨x, dx, n, rfl, upd_same, dp_same s1 dn, ok, fun nt cm ln gv lv ow up rs H' S ea ent ecm eln egv elv eow eup lr rows nd fr => ⟨rfl, ?_⟩⟩⟩
  have frC : ∀ y ∈ (up :: (rs ++ [ow, lv, gv, ln, cm, nt, x])), H y = none := fun y hy => by
    by_cases c : y = x
    · rw [c]; exact nx
    · refine fre y (fr y ?_)
      simp only [List.mem_append, List.mem_cons, List.not_mem_nil, or_false] at hy ⊢
      rcases hy with h | h | h | h | h | h | h | h | h
      · exact .inl h
      · exact .inr (.inl h)
      · exact .inr (.inr (.inl h))
      · exact .inr (.inr (.inr (.inl h)))
      · exact .inr (.inr (.inr (.inr (.inl h))))
      · exact .inr (.inr (.inr (.inr (.inr (.inl h)))))
      · exact .inr (.inr (.inr (.inr (.inr (.inr (.inl h))))))
      · exact .inr (.inr (.inr (.inr (.inr (.inr (.inr h))))))
      · exact absurd h c
  have at_ : ∀ y o, y ∈ (up :: (rs ++ [ow, lv, gv, ln, cm, nt, x])) → H' y = some o → hid TT H' y = some o := fun y o hy e => by
    rw [hid_ne (fun z => hT y z (frC y hy))]; exact e
  refine q ⟨x, dx, nt, cm, ln, gv, lv, ow, up, rs⟩ H' ((s1.trans S).trans (hid_same _ _)) ⟨nd, ok.1, ok.2, at_ _ _ (by simp) ea, at_ _ _ (by simp) ent, ⟨[], at_ _ _ (by simp) ecm, .nil⟩, ⟨[], at_ _ _ (by simp) eln, rfl, fun k z e hz => by simp at hz⟩, at_ _ _ (by simp) egv, at_ _ _ (by simp) elv, at_ _ _ (by simp) eow, ⟨⟨dx, _, at_ _ _ (by simp) ea, rfl⟩, at_ _ _ (by simp) eup, lr, fun j r hr => at_ _ _ ?_ (rows j r hr)⟩⟩ frC
  exact List.mem_cons_of_mem _ (List.mem_append_left _ (List.mem_of_getElem? hr))
theorem gv_ok0 (n : Int) : GvOk n [] [] [] [] := ⟨(fun k w i h => by simp at h), rfl, (fun w z => by cases z), rfl, rfl, (fun k e h z => by simp at z), (fun j k e f _ z => by simp at z), (fun k e t z => by simp at z)⟩
theorem same_hid_app {C X : List Addr} {H H' : Hp} (f : ∀ x ∈ X, H x = none) (s : Same H H') : Same (hid C H) (hid (X ++ C) H') := fun b o hb => by
  obtain ⟨h1, h2⟩ := hid_some hb
  rw [hid_ne]
  · exact s _ _ h2
  · intro z
    rcases List.mem_append.mp z with z | z
    · rw [f b z] at h2; cases h2
    · exact h1 z
theorem own_one {es : List Ent} {w : Int × Int} {i : Nat} {t s : Int} (h : OwnOf es w i t) (h' : OwnOf es w i s) : t = s := by
  obtain ⟨a1, a2, a3⟩ := h
  obtain ⟨b1, b2, b3⟩ := h'
  rcases Int.lt_trichotomy t s with c | c | c
  · exact absurd a2 (b3 t a1 c)
  · exact c
  · exact absurd b2 (a3 s b1 c)


def pr_law_mix (K : PySem.W.Frag) (v0 v1 : V) (H : Hp) (Q : VK) (_ : XK) : Prop := ∃ x k : Int, v0 = .int x ∧ v1 = .int k ∧ 0 ≤ x ∧ x < 2147483629 ∧ 0 ≤ k ∧ k < 10000000 ∧ ∀ r, 0 ≤ r → r < 2147483587 → Q (.int r) H
def t_law_mix (K : PySem.W.Frag) : TS :=
  (tSeq (tAsg (tOp xMod (tOp xMul (tOp xAdd (tOp xAdd (tOp xMul (tVar 0) (tVar 0)) (tOp xMul (tVar 1) (tVar 0))) (tOp xMul (tOp xMul (tC (.int 7)) (tVar 1)) (tVar 1))) (tC (.int 1103515245))) (tC (.int 2147483629))) (gName 2))
    (tRet (tOp xMod (tOp xMul (tVar 2) (tVar 2)) (tC (.int 2147483587)))))
theorem pure_law_mix {v0 v1 : V} {H : Hp} {Q : VK} {E : XK} (h : pr_law_mix K v0 v1 H Q E) : t_law_mix K ⟨fun _ H' => Q .non H', Q, fun _ _ => False, fun _ _ => False⟩ [some v0, some v1, none] H := by
  obtain ⟨x, k, rfl, rfl, x0, x1, k0, k1, q⟩ := h
  unfold t_law_mix
  wtm_at "s"
  exact q _ (Int.emod_nonneg _ (by decide)) (Int.emod_lt_of_pos _ (by decide))
abbrev sp_law_mix (K : PySem.W.Frag) : Sp := fun vs H Q E => ∃ v0 v1, vs = [v0, v1] ∧ pr_law_mix K v0 v1 H Q E
theorem ok_law_mix (T : Txt K mg A) : FnOk P w K mg base CX0 1 A.a_law_mix A.d_law_mix ["_law_number", "_law_k"] (sp_law_mix K) := by
  refine T.F_law_mix.ok sc_law_mix (fun vs H Q E h => by obtain ⟨v0, v1, rfl, _⟩ := h; rfl) (fun cdv A0 outer s H vs Q E hr h => ?_)
  obtain ⟨v0, v1, rfl, h⟩ := h
  exact ⟨t_law_mix K, (pss_cons (ps_set (i := 2) sc_law_mix.nd rfl (Or.inl rfl) (pe_op op_mod (pe_op op_mul (pe_op op_add (pe_op op_add (pe_op op_mul (pv 0) (pv 0)) (pe_op op_mul (pv 1) (pv 0))) (pe_op op_mul (pe_op op_mul pe_int (pv 1)) (pv 1))) pe_int) pe_int))
      (pss_one (ps_ret (pe_op op_mod (pe_op op_mul (pv 2) (pv 2)) pe_int)))), pure_law_mix h⟩
def pr_law_cell_at (K : PySem.W.Frag) (v0 v1 : V) (H : Hp) (Q : VK) (_ : XK) : Prop := ∃ (a : Addr) (ns : List Int) (k : Int), v0 = .ref a ∧ v1 = .int k ∧ SqL K H a (ns.map V.int) ∧ 0 ≤ k ∧ ∀ x, Q (.int x) H
def t_law_cell_at (K : PySem.W.Frag) : TS :=
  (tSeq (tIfS (tTest (tOp xLt (tVar 1) (tCB (rLenX K) (tCons (tVar 0) tNil)))) (tRet (tOp (rIxL K) (tVar 0) (tVar 1))) tNext)
    (tRet (tC (.int 0))))
theorem pure_law_cell_at {v0 v1 : V} {H : Hp} {Q : VK} {E : XK} (h : pr_law_cell_at K v0 v1 H Q E) : t_law_cell_at K ⟨fun _ H' => Q .non H', Q, fun _ _ => False, fun _ _ => False⟩ [some v0, some v1] H := by
  obtain ⟨a, ns, k, rfl, rfl, ha, k0, q⟩ := h
  unfold t_law_cell_at
  wtm_at "s"
  refine k_it (fun c => ?_) (fun c => ?_)
  · wtm_at "s"
    refine k_ixI ha k0 c ?_
    exact q _
  · wtm_at "s"
    exact q _
abbrev sp_law_cell_at (K : PySem.W.Frag) : Sp := fun vs H Q E => ∃ v0 v1, vs = [v0, v1] ∧ pr_law_cell_at K v0 v1 H Q E
theorem ok_law_cell_at (T : Txt K mg A) : FnOk P w K mg base CX0 1 A.a_law_cell_at A.d_law_cell_at ["_law_script", "_law_k"] (sp_law_cell_at K) := by
  refine T.F_law_cell_at.ok sc_law_cell_at (fun vs H Q E h => by obtain ⟨v0, v1, rfl, _⟩ := h; rfl) (fun cdv A0 outer s H vs Q E hr h => ?_)
  obtain ⟨v0, v1, rfl, h⟩ := h
  exact ⟨t_law_cell_at K, (pss_cons (ps_if (pt_cmpR op_lt (pv 1) (pe_callB q_len (by rfl) T.z_len (by decide +kernel) (pa_cons (pv 0) pa_nil)) (nomark _)) (pss_one (ps_ret (pe_ix ix_list (pv 0) (pv 1) (fun _ _ => rfl)))) pss_nil)
      (pss_one (ps_ret pe_int))), pure_law_cell_at h⟩
def pr_law_left (K : PySem.W.Frag) (v0 v1 : V) (H : Hp) (Q : VK) (_ : XK) : Prop := ∃ (a : Addr) (ns : List Int) (k : Int), v0 = .ref a ∧ v1 = .int k ∧ SqL K H a (ns.map V.int) ∧ 0 ≤ k ∧ ∀ p H', H p = none → Same H H' → Le H' p 0 → Q (.ref p) H'
def t_law_left (K : PySem.W.Frag) : TS :=
  (tSeq (tAsg (tCall (sp_law_cell_at K) [] E0 (tCons (tVar 0) (tCons (tVar 1) tNil))) (gName 2))
    (tSeq (tIfS (tTest (tOp xLt (tVar 2) (tOp xPow (tC (.int 10)) (tC (.int 18))))) (tRet (tLst (tCons (tOp xMod (tVar 2) (tC (.int 2147483629))) (tCons (tC (.int 0)) (tCons (tC (.int 0)) tNil))))) tNext)
    (tRet (tLst (tCons (tOp xSub (tVar 2) (tOp xPow (tC (.int 10)) (tC (.int 18)))) (tCons (tC (.int 1)) (tCons (tC (.int 0)) tNil)))))))
theorem pure_law_left {v0 v1 : V} {H : Hp} {Q : VK} {E : XK} (h : pr_law_left K v0 v1 H Q E) : t_law_left K ⟨fun _ H' => Q .non H', Q, fun _ _ => False, fun _ _ => False⟩ [some v0, some v1, none] H := by
  obtain ⟨a, ns, k, rfl, rfl, ha, k0, q⟩ := h
  unfold t_law_left
  wtm_at "s"
  refine ⟨_, _, rfl, a, ns, k, rfl, rfl, ha, k0, fun x => ?_⟩
  wtm_at "s"
  refine k_it (fun c => ?_) (fun c => ?_)
  · wtm_at "s"
    refine ⟨sz (by simp), fun p np => ?_⟩
    exact q p _ np (same_new np) ⟨⟨_, _, upd_same, fun _ => ⟨Int.emod_nonneg _ (by decide), Int.emod_lt_of_pos _ (by decide)⟩⟩, by decide⟩
  · wtm_at "s"
    refine ⟨sz (by simp), fun p np => ?_⟩
    exact q p _ np (same_new np) ⟨⟨_, _, upd_same, fun z => absurd z (by decide)⟩, by decide⟩
abbrev sp_law_left (K : PySem.W.Frag) : Sp := fun vs H Q E => ∃ v0 v1, vs = [v0, v1] ∧ pr_law_left K v0 v1 H Q E
theorem ok_law_left (T : Txt K mg A) : FnOk P w K mg base CX0 2 A.a_law_left A.d_law_left ["_law_script", "_law_k"] (sp_law_left K) := by
  refine T.F_law_left.ok sc_law_left (fun vs H Q E h => by obtain ⟨v0, v1, rfl, _⟩ := h; rfl) (fun cdv A0 outer s H vs Q E hr h => ?_)
  obtain ⟨v0, v1, rfl, h⟩ := h
  exact ⟨t_law_left K, (pss_cons (ps_set (i := 2) sc_law_left.nd rfl (Or.inl rfl) (pe_call (ok_law_cell_at T) (hr.mono (by decide)) (by rfl) T.g_law_cell_at T.F_law_cell_at.kp T.b_law_cell_at .nil pass0 (pa_cons (pv 0) (pa_cons (pv 1) pa_nil))))
      (pss_cons (ps_if (pt_cmpR op_lt (pv 2) (pe_op op_pow pe_int pe_int) (nomark _)) (pss_one (ps_ret (pe_lst (pa_cons (pe_op op_mod (pv 2) pe_int) (pa_cons pe_int (pa_cons pe_int pa_nil)))))) pss_nil)
      (pss_one (ps_ret (pe_lst (pa_cons (pe_op op_sub (pv 2) (pe_op op_pow pe_int pe_int)) (pa_cons pe_int (pa_cons pe_int pa_nil)))))))), pure_law_left h⟩
def pr_law_draw (K : PySem.W.Frag) (v0 v1 : V) (H : Hp) (Q : VK) (_ : XK) : Prop := ∃ (pu : Addr) (k m : Int), v0 = .ref pu ∧ v1 = .int m ∧ Le H pu k ∧ k < 1000000 ∧ 0 < m ∧ m < 2 ^ 200 ∧ ∀ r H', 0 ≤ r → r < m → Le H' pu (k + 1) → Same (hid [pu] H) (hid [pu] H') → Q (.int r) H'
def t_law_draw (K : PySem.W.Frag) : TS :=
  (tSeq (tAsg (tOp xAdd (tOp (rIxL K) (tVar 0) (tC (.int 2))) (tC (.int 1))) (gSub (tVar 0) (tC (.int 2)) rSetL))
    (tSeq (tIfS (tTest (tOp rEq (tOp (rIxL K) (tVar 0) (tC (.int 1))) (tC (.int 0)))) (tSeq (tAsg (tCall (sp_law_mix K) [] E0 (tCons (tOp (rIxL K) (tVar 0) (tC (.int 0))) (tCons (tOp (rIxL K) (tVar 0) (tC (.int 2))) tNil))) (gName 2))
    (tSeq (tIfS (tTest (tOp xGt (tVar 1) (tOp xPow (tC (.int 10)) (tC (.int 9))))) (tRet (tOp xMod (tOp xMul (tVar 2) (tOp xAdd (tOp xPow (tCall (sp_law_mix K) [] E0 (tCons (tOp (rIxL K) (tVar 0) (tC (.int 0))) (tCons (tOp xAdd (tOp (rIxL K) (tVar 0) (tC (.int 2))) (tC (.int 500))) tNil))) (tC (.int 3))) (tC (.int 1)))) (tVar 1))) tNext)
    (tRet (tOp xMod (tOp xMod (tOp xMul (tVar 2) (tOp xAdd (tVar 2) (tC (.int 2)))) (tC (.int 2147483579))) (tVar 1))))) tNext)
    (tSeq (tAsg (tOp xMod (tOp (rIxL K) (tVar 0) (tC (.int 0))) (tVar 1)) (gName 3))
    (tSeq (tAsg (tOp xDivW (tOp (rIxL K) (tVar 0) (tC (.int 0))) (tVar 1)) (gSub (tVar 0) (tC (.int 0)) rSetL))
    (tRet (tVar 3))))))
theorem pure_law_draw {v0 v1 : V} {H : Hp} {Q : VK} {E : XK} (h : pr_law_draw K v0 v1 H Q E) : t_law_draw K ⟨fun _ H' => Q .non H', Q, fun _ _ => False, fun _ _ => False⟩ [some v0, some v1, none, none] H := by
  obtain ⟨pu, k, m, rfl, rfl, hL, k1, m0, m1, q⟩ := h
  obtain ⟨⟨x, f, hp, hx⟩, k0⟩ := hL
  unfold t_law_draw
  wtm_at "s"
  refine k_ixL (sl hp) rfl ?_
  wtm_at "s"
  refine k_setL hp (j := 2) rfl ?_
  have e1 : upd H pu (.lst [.int x, .int f, .int (k + 1)]) pu = some (.lst [.int x, .int f, .int (k + 1)]) := upd_same
  have S1 : Same (hid [pu] H) (hid [pu] (upd H pu (.lst [.int x, .int f, .int (k + 1)]))) := same_hid_upd (Same.refl _) (by simp)
  rw [show [V.int x, V.int f, V.int k].set 2 (V.int (k + 1)) = [.int x, .int f, .int (k + 1)] from rfl]
  generalize upd H pu (.lst [.int x, .int f, .int (k + 1)]) = H1 at e1 S1 ⊢
  wtm_at "s"
  refine k_ixL (sl e1) rfl ?_
  wtm_at "s"
  refine k_it (fun c => ?_) (fun c => ?_)
  · obtain ⟨x0, x1⟩ := hx c
    have L1 : Le H1 pu (k + 1) := ⟨⟨x, f, e1, hx⟩, by omega⟩
    wtm_at "s"
    refine k_ixL (sl e1) rfl ?_
    wtm_at "s"
    refine k_ixL (sl e1) rfl ?_
    wtm_at "s"
    refine ⟨_, _, rfl, x, k + 1, rfl, rfl, x0, x1, by omega, by omega, fun r r0 r1 => ?_⟩
    wtm_at "s"
    refine k_it (fun c2 => ?_) (fun c2 => ?_)
    · wtm_at "s"
      refine k_ixL (sl e1) rfl ?_
      wtm_at "s"
      refine k_ixL (sl e1) rfl ?_
      wtm_at "s"
      refine ⟨_, _, rfl, x, k + 1 + 500, rfl, rfl, x0, x1, by omega, by omega, fun r2 r20 r21 => ?_⟩
      wtm_at "s"
      refine k_pow ⟨by decide, by decide, by omega⟩ ?_
      wtm_at "s"
      exact q _ _ (Int.emod_nonneg _ (by omega)) (Int.emod_lt_of_pos _ m0) L1 S1
    · wtm_at "s"
      exact q _ _ (Int.emod_nonneg _ (by omega)) (Int.emod_lt_of_pos _ m0) L1 S1
  · wtm_at "s"
    refine k_ixL (sl e1) rfl ?_
    wtm_at "s"
    refine k_ixL (sl e1) rfl ?_
    wtm_at "s"
    refine k_divW (wide_div m0 (b := 201) (by omega) (by decide) (by decide)) ?_
    wtm_at "s"
    refine k_setL e1 (j := 0) rfl ?_
    wtm_at "s"
    exact q _ _ (Int.emod_nonneg _ (by omega)) (Int.emod_lt_of_pos _ m0) ⟨⟨x / m, f, upd_same, fun z => absurd z c⟩, by omega⟩ (same_hid_upd S1 (by simp))
abbrev sp_law_draw (K : PySem.W.Frag) : Sp := fun vs H Q E => ∃ v0 v1, vs = [v0, v1] ∧ pr_law_draw K v0 v1 H Q E
theorem ok_law_draw (T : Txt K mg A) : FnOk P w K mg base CX0 2 A.a_law_draw A.d_law_draw ["_law_left_here", "_law_base"] (sp_law_draw K) := by
  refine T.F_law_draw.ok sc_law_draw (fun vs H Q E h => by obtain ⟨v0, v1, rfl, _⟩ := h; rfl) (fun cdv A0 outer s H vs Q E hr h => ?_)
  obtain ⟨v0, v1, rfl, h⟩ := h
  exact ⟨t_law_draw K, (pss_cons (ps_asg (pe_op op_add (pe_ix ix_list (pv 0) pe_int (fun _ _ => rfl)) pe_int) (pg_sub (pv 0) pe_int set_list))
      (pss_cons (ps_if (pt_cmpR op_eq (pe_ix ix_list (pv 0) pe_int (fun _ _ => rfl)) pe_int (nomark _)) (pss_cons (ps_set (i := 2) sc_law_draw.nd rfl (Or.inl rfl) (pe_call (ok_law_mix T) (hr.mono (by decide)) (by rfl) T.g_law_mix T.F_law_mix.kp T.b_law_mix .nil pass0 (pa_cons (pe_ix ix_list (pv 0) pe_int (fun _ _ => rfl)) (pa_cons (pe_ix ix_list (pv 0) pe_int (fun _ _ => rfl)) pa_nil))))
      (pss_cons (ps_if (pt_cmpR op_gt (pv 1) (pe_op op_pow pe_int pe_int) (nomark _)) (pss_one (ps_ret (pe_op op_mod (pe_op op_mul (pv 2) (pe_op op_add (pe_op op_pow (pe_call (ok_law_mix T) (hr.mono (by decide)) (by rfl) T.g_law_mix T.F_law_mix.kp T.b_law_mix .nil pass0 (pa_cons (pe_ix ix_list (pv 0) pe_int (fun _ _ => rfl)) (pa_cons (pe_op op_add (pe_ix ix_list (pv 0) pe_int (fun _ _ => rfl)) pe_int) pa_nil))) pe_int) pe_int)) (pv 1)))) pss_nil)
      (pss_one (ps_ret (pe_op op_mod (pe_op op_mod (pe_op op_mul (pv 2) (pe_op op_add (pv 2) pe_int)) pe_int) (pv 1)))))) pss_nil)
      (pss_cons (ps_set (i := 3) sc_law_draw.nd rfl (Or.inl rfl) (pe_op op_mod (pe_ix ix_list (pv 0) pe_int (fun _ _ => rfl)) (pv 1)))
      (pss_cons (ps_asg (pe_op op_fdivW (pe_ix ix_list (pv 0) pe_int (fun _ _ => rfl)) (pv 1)) (pg_sub (pv 0) pe_int set_list))
      (pss_one (ps_ret (pv 3))))))), pure_law_draw h⟩


/-- a comprehension over a range whose items are new things, of which F tells the data -/
theorem lc_dpR {K : PySem.W.Frag} {σ : L2.St} {vs : List Nat} {g : TG} {te : TE} {H1 : Hp} {QD : Addr → Hp → Prop} {lo : Int} {n : Nat} (S0 : List Addr) (hS : ∀ b ∈ S0, H1 b ≠ none) (hz : n ≤ 50000) (F : Nat → PyData)
    (step : ∀ (i : Nat) H', i < n → Same H1 H' → ∀ (S : List Addr) (R : V → Hp → Prop), (∀ b ∈ S, H' b ≠ none) → (∀ y H'', Same H' H'' → Dp K (hid S H'') y (F i) → R y H'') →
      g (.int (lo + (i : Nat))) (wipe σ vs) H' fun σ2 H2 => wipe σ2 vs = wipe σ vs ∧ te σ2 H2 R)
    (h : ∀ D ys H', H1 D = none → Same H1 H' → H' D = some (.lst ys) → DpAll K (hid (D :: S0) H') ys ((List.range n).map F) → QD D H') (hg : ∀ x σ' H (q q' : L2.St → Hp → Prop), (∀ s H, q s H → q' s H) → g x σ' H q → g x σ' H q') :
    ∀ D, H1 D = none → ∃ W : Nat → Nat → Hp → Prop, (∃ m, W 0 m (upd H1 D (.lst []))) ∧ ∀ i m H, W i m H →
      ((Itr lo n).stop i H ∧ QD D H) ∨ ((Itr lo n).go i H ∧ ∃ Nx : Hp → Prop, (∀ H', Nx H' → ∃ m', m' < m ∧ W (i + 1) m' H') ∧ ∀ x H', (Itr lo n).yld i H x H' → g x (wipe σ vs) H' fun σ2 H2 => wipe σ2 vs = wipe σ vs ∧ tYes σ2 H2 fun b H3 =>
        if b = true then te σ2 H3 fun y H4 => ∃ acc, H4 D = some (.lst acc) ∧ acc.length < sizeLine ∧ Nx (upd H4 D (.lst (acc ++ [y]))) else Nx H3) := by
  refine fun D nD => lc_range (fun i H => Same H1 H ∧ ∃ ys, H D = some (.lst ys) ∧ ys.length = i ∧ DpAll K (hid (D :: S0) H) ys (((List.range n).take i).map F)) ⟨same_new nD, [], upd_same, rfl, by simpa using DpAll.nil⟩ ?_ ?_
  · rintro i H hi ⟨sm, ys, hD, hly, hys⟩
    refine hg _ _ _ _ _ (fun s2 H2 hh => ⟨hh.1, k_yes (iteT hh.2)⟩) (step i H hi sm (D :: S0) _ (fun b hb => ?_) (fun y H'' s2 dy => ⟨ys, s2 _ _ hD, szl (by omega), same_mut (sm.trans s2) nD, ys ++ [y], upd_same, by simp [hly], ?_⟩))
    · rcases List.mem_cons.mp hb with e | hb
      · rw [e, hD]; exact fun z => nomatch z
      · intro z
        exact hS b hb (sm.free z)
    · rw [hid_upd (by simp), List.take_add_one, List.getElem?_range hi, List.map_append]
      exact dpa_app (dpa_same (hid_mono s2) hys) (.cons dy .nil)
  · rintro H ⟨sm, ys, hD, hly, hys⟩
    rw [List.take_of_length_le (by simp)] at hys
    exact h D ys H nD sm hD hys

theorem kind_NoNet (T : Txt K mg A) : KindOf K A A.c_NoNet 0 := ⟨by decide, T.q_NoNet_ValueError, T.q_NoNet_NoNet, T.q_NoNet_OtherNet, T.q_NoNet_NoWay, T.q_NoNet_TooMany, T.q_NoNet_NoHues, T.q_NoNet_NoCrossing, T.q_NoNet_NoLot, T.q_NoNet_NoPlace, T.q_NoNet_NoNumber, T.q_NoNet_NoTurning, T.q_NoNet_NoTie, T.q_NoNet_NoText, T.q_NoNet_NoRow, T.q_NoNet_NoName, T.q_NoNet_NoForm⟩
theorem kind_OtherNet (T : Txt K mg A) : KindOf K A A.c_OtherNet 1 := ⟨by decide, T.q_OtherNet_ValueError, T.q_OtherNet_NoNet, T.q_OtherNet_OtherNet, T.q_OtherNet_NoWay, T.q_OtherNet_TooMany, T.q_OtherNet_NoHues, T.q_OtherNet_NoCrossing, T.q_OtherNet_NoLot, T.q_OtherNet_NoPlace, T.q_OtherNet_NoNumber, T.q_OtherNet_NoTurning, T.q_OtherNet_NoTie, T.q_OtherNet_NoText, T.q_OtherNet_NoRow, T.q_OtherNet_NoName, T.q_OtherNet_NoForm⟩
theorem kind_NoWay (T : Txt K mg A) : KindOf K A A.c_NoWay 2 := ⟨by decide, T.q_NoWay_ValueError, T.q_NoWay_NoNet, T.q_NoWay_OtherNet, T.q_NoWay_NoWay, T.q_NoWay_TooMany, T.q_NoWay_NoHues, T.q_NoWay_NoCrossing, T.q_NoWay_NoLot, T.q_NoWay_NoPlace, T.q_NoWay_NoNumber, T.q_NoWay_NoTurning, T.q_NoWay_NoTie, T.q_NoWay_NoText, T.q_NoWay_NoRow, T.q_NoWay_NoName, T.q_NoWay_NoForm⟩
theorem kind_TooMany (T : Txt K mg A) : KindOf K A A.c_TooMany 3 := ⟨by decide, T.q_TooMany_ValueError, T.q_TooMany_NoNet, T.q_TooMany_OtherNet, T.q_TooMany_NoWay, T.q_TooMany_TooMany, T.q_TooMany_NoHues, T.q_TooMany_NoCrossing, T.q_TooMany_NoLot, T.q_TooMany_NoPlace, T.q_TooMany_NoNumber, T.q_TooMany_NoTurning, T.q_TooMany_NoTie, T.q_TooMany_NoText, T.q_TooMany_NoRow, T.q_TooMany_NoName, T.q_TooMany_NoForm⟩
theorem kind_NoHues (T : Txt K mg A) : KindOf K A A.c_NoHues 4 := ⟨by decide, T.q_NoHues_ValueError, T.q_NoHues_NoNet, T.q_NoHues_OtherNet, T.q_NoHues_NoWay, T.q_NoHues_TooMany, T.q_NoHues_NoHues, T.q_NoHues_NoCrossing, T.q_NoHues_NoLot, T.q_NoHues_NoPlace, T.q_NoHues_NoNumber, T.q_NoHues_NoTurning, T.q_NoHues_NoTie, T.q_NoHues_NoText, T.q_NoHues_NoRow, T.q_NoHues_NoName, T.q_NoHues_NoForm⟩
theorem kind_NoCrossing (T : Txt K mg A) : KindOf K A A.c_NoCrossing 5 := ⟨by decide, T.q_NoCrossing_ValueError, T.q_NoCrossing_NoNet, T.q_NoCrossing_OtherNet, T.q_NoCrossing_NoWay, T.q_NoCrossing_TooMany, T.q_NoCrossing_NoHues, T.q_NoCrossing_NoCrossing, T.q_NoCrossing_NoLot, T.q_NoCrossing_NoPlace, T.q_NoCrossing_NoNumber, T.q_NoCrossing_NoTurning, T.q_NoCrossing_NoTie, T.q_NoCrossing_NoText, T.q_NoCrossing_NoRow, T.q_NoCrossing_NoName, T.q_NoCrossing_NoForm⟩
theorem kind_NoLot (T : Txt K mg A) : KindOf K A A.c_NoLot 6 := ⟨by decide, T.q_NoLot_ValueError, T.q_NoLot_NoNet, T.q_NoLot_OtherNet, T.q_NoLot_NoWay, T.q_NoLot_TooMany, T.q_NoLot_NoHues, T.q_NoLot_NoCrossing, T.q_NoLot_NoLot, T.q_NoLot_NoPlace, T.q_NoLot_NoNumber, T.q_NoLot_NoTurning, T.q_NoLot_NoTie, T.q_NoLot_NoText, T.q_NoLot_NoRow, T.q_NoLot_NoName, T.q_NoLot_NoForm⟩
theorem kind_NoPlace (T : Txt K mg A) : KindOf K A A.c_NoPlace 7 := ⟨by decide, T.q_NoPlace_ValueError, T.q_NoPlace_NoNet, T.q_NoPlace_OtherNet, T.q_NoPlace_NoWay, T.q_NoPlace_TooMany, T.q_NoPlace_NoHues, T.q_NoPlace_NoCrossing, T.q_NoPlace_NoLot, T.q_NoPlace_NoPlace, T.q_NoPlace_NoNumber, T.q_NoPlace_NoTurning, T.q_NoPlace_NoTie, T.q_NoPlace_NoText, T.q_NoPlace_NoRow, T.q_NoPlace_NoName, T.q_NoPlace_NoForm⟩
theorem kind_NoText (T : Txt K mg A) : KindOf K A A.c_NoText 11 := ⟨by decide, T.q_NoText_ValueError, T.q_NoText_NoNet, T.q_NoText_OtherNet, T.q_NoText_NoWay, T.q_NoText_TooMany, T.q_NoText_NoHues, T.q_NoText_NoCrossing, T.q_NoText_NoLot, T.q_NoText_NoPlace, T.q_NoText_NoNumber, T.q_NoText_NoTurning, T.q_NoText_NoTie, T.q_NoText_NoText, T.q_NoText_NoRow, T.q_NoText_NoName, T.q_NoText_NoForm⟩
/-- a class of refusals: the w-th of the fifteen -/
structure RefOk (K : PySem.W.Frag) (A : Ad) (w : Nat) (C : Addr) : Prop where
  up : PySem.W.exmOne K (.ref C) (.ref A.c_TieError) = some true
  te : PySem.W.kitOne K (.ref C) (.ref A.c_TieError) = some true
  ex : ExK K C
  kd : KindOf K A C w
theorem ref_NoNet (T : Txt K mg A) : RefOk K A 0 A.c_NoNet := ⟨PySem.W.exm_ref T.x_TieError.hs T.x_TieError.hd T.t_TieError T.u_NoNet, T.q_NoNet_TieError, T.x_NoNet, kind_NoNet T⟩
theorem ref_OtherNet (T : Txt K mg A) : RefOk K A 1 A.c_OtherNet := ⟨PySem.W.exm_ref T.x_TieError.hs T.x_TieError.hd T.t_TieError T.u_OtherNet, T.q_OtherNet_TieError, T.x_OtherNet, kind_OtherNet T⟩
theorem ref_NoWay (T : Txt K mg A) : RefOk K A 2 A.c_NoWay := ⟨PySem.W.exm_ref T.x_TieError.hs T.x_TieError.hd T.t_TieError T.u_NoWay, T.q_NoWay_TieError, T.x_NoWay, kind_NoWay T⟩
theorem ref_TooMany (T : Txt K mg A) : RefOk K A 3 A.c_TooMany := ⟨PySem.W.exm_ref T.x_TieError.hs T.x_TieError.hd T.t_TieError T.u_TooMany, T.q_TooMany_TieError, T.x_TooMany, kind_TooMany T⟩
theorem ref_NoHues (T : Txt K mg A) : RefOk K A 4 A.c_NoHues := ⟨PySem.W.exm_ref T.x_TieError.hs T.x_TieError.hd T.t_TieError T.u_NoHues, T.q_NoHues_TieError, T.x_NoHues, kind_NoHues T⟩
theorem ref_NoCrossing (T : Txt K mg A) : RefOk K A 5 A.c_NoCrossing := ⟨PySem.W.exm_ref T.x_TieError.hs T.x_TieError.hd T.t_TieError T.u_NoCrossing, T.q_NoCrossing_TieError, T.x_NoCrossing, kind_NoCrossing T⟩
theorem ref_NoLot (T : Txt K mg A) : RefOk K A 6 A.c_NoLot := ⟨PySem.W.exm_ref T.x_TieError.hs T.x_TieError.hd T.t_TieError T.u_NoLot, T.q_NoLot_TieError, T.x_NoLot, kind_NoLot T⟩
theorem ref_NoPlace (T : Txt K mg A) : RefOk K A 7 A.c_NoPlace := ⟨PySem.W.exm_ref T.x_TieError.hs T.x_TieError.hd T.t_TieError T.u_NoPlace, T.q_NoPlace_TieError, T.x_NoPlace, kind_NoPlace T⟩
theorem ref_NoText (T : Txt K mg A) : RefOk K A 11 A.c_NoText := ⟨PySem.W.exm_ref T.x_TieError.hs T.x_TieError.hd T.t_TieError T.u_NoText, T.q_NoText_TieError, T.x_NoText, kind_NoText T⟩
def pr_law_marks (K : PySem.W.Frag) (A : Ad) (v0 : V) (H : Hp) (Q : VK) (E : XK) : Prop := ∃ (a D : Addr) (w : Nat), v0 = .ref a ∧ KeptAt H a D ∧ RefOk K A w D ∧ ∀ p H', H p = none → Same H H' → H' p = some (.lst [.int (w : Nat)]) → Q (.ref p) H'
def t_law_marks (K : PySem.W.Frag) (A : Ad) : TS :=
  (tSeq (tAsg (tLst (tCons (tCB (rIsA K) (tCons (tVar 0) (tCons (tC (.ref A.c_NoNet)) tNil))) (tCons (tCB (rIsA K) (tCons (tVar 0) (tCons (tC (.ref A.c_OtherNet)) tNil))) (tCons (tCB (rIsA K) (tCons (tVar 0) (tCons (tC (.ref A.c_NoWay)) tNil))) tNil)))) (gName 1))
    (tSeq (tAsg (tOp rCat (tVar 1) (tLst (tCons (tCB (rIsA K) (tCons (tVar 0) (tCons (tC (.ref A.c_TooMany)) tNil))) (tCons (tCB (rIsA K) (tCons (tVar 0) (tCons (tC (.ref A.c_NoHues)) tNil))) (tCons (tCB (rIsA K) (tCons (tVar 0) (tCons (tC (.ref A.c_NoCrossing)) tNil))) tNil))))) (gName 1))
    (tSeq (tAsg (tOp rCat (tVar 1) (tLst (tCons (tCB (rIsA K) (tCons (tVar 0) (tCons (tC (.ref A.c_NoLot)) tNil))) (tCons (tCB (rIsA K) (tCons (tVar 0) (tCons (tC (.ref A.c_NoPlace)) tNil))) (tCons (tCB (rIsA K) (tCons (tVar 0) (tCons (tC (.ref A.c_NoNumber)) tNil))) tNil))))) (gName 1))
    (tSeq (tAsg (tOp rCat (tVar 1) (tLst (tCons (tCB (rIsA K) (tCons (tVar 0) (tCons (tC (.ref A.c_NoTurning)) tNil))) (tCons (tCB (rIsA K) (tCons (tVar 0) (tCons (tC (.ref A.c_NoTie)) tNil))) (tCons (tCB (rIsA K) (tCons (tVar 0) (tCons (tC (.ref A.c_NoText)) tNil))) tNil))))) (gName 1))
    (tSeq (tAsg (tOp rCat (tVar 1) (tLst (tCons (tCB (rIsA K) (tCons (tVar 0) (tCons (tC (.ref A.c_NoRow)) tNil))) (tCons (tCB (rIsA K) (tCons (tVar 0) (tCons (tC (.ref A.c_NoName)) tNil))) (tCons (tCB (rIsA K) (tCons (tVar 0) (tCons (tC (.ref A.c_NoForm)) tNil))) tNil))))) (gName 1))
    (tSeq (tIfS (tOr (tNot (tB (tCB (rIsA K) (tCons (tVar 0) (tCons (tC (.ref A.c_TieError)) tNil))))) (tNot (tB (tCB (rIsA K) (tCons (tVar 0) (tCons (tC (.ty "ValueError")) tNil)))))) (tRet (tLst tNil)) tNext)
    (tRet (tLc (iRng1 (tCons (tC (.int 15)) tNil)) (gName 2) (tB (tOp (rIxL K) (tVar 1) (tVar 2))) (tVar 2) [2]))))))))
theorem pure_law_marks (T : Txt K mg A) {v0 : V} {H : Hp} {Q : VK} {E : XK} (h : pr_law_marks K A v0 H Q E) : t_law_marks K A ⟨fun _ H' => Q .non H', Q, fun _ _ => False, fun _ _ => False⟩ [some v0, none, none] H := by
  obtain ⟨a, D, w, rfl, k, ⟨_, te, ex, kd⟩, q⟩ := h
  unfold t_law_marks
  wtm_at "s"
  refine k_isXone (xs := []) (kept_same k (by wtm_at "sm")) ex (.own _) kd.k0 ?_
  wtm_at "s"
  refine k_isXone (xs := []) (kept_same k (by wtm_at "sm")) ex (.own _) kd.k1 ?_
  wtm_at "s"
  refine k_isXone (xs := []) (kept_same k (by wtm_at "sm")) ex (.own _) kd.k2 ?_
  wtm_at "s"
  refine kL (by simp) (fun l0 H1 nl0 s1 e1 => ?_)
  wtm_at "s"
  refine k_isXone (xs := []) (kept_same k (by wtm_at "sm")) ex (.own _) kd.k3 ?_
  wtm_at "s"
  refine k_isXone (xs := []) (kept_same k (by wtm_at "sm")) ex (.own _) kd.k4 ?_
  wtm_at "s"
  refine k_isXone (xs := []) (kept_same k (by wtm_at "sm")) ex (.own _) kd.k5 ?_
  wtm_at "s"
  refine kL (by simp) (fun l1 H3 nl1 s3 e3 => ?_)
  wtm_at "s"
  refine k_catN (by wtm_at "at") (by wtm_at "at") (by simp) (fun m1 H4 nm1 s4 e4 => ?_)
  wtm_at "s"
  refine k_isXone (xs := []) (kept_same k (by wtm_at "sm")) ex (.own _) kd.k6 ?_
  wtm_at "s"
  refine k_isXone (xs := []) (kept_same k (by wtm_at "sm")) ex (.own _) kd.k7 ?_
  wtm_at "s"
  refine k_isXone (xs := []) (kept_same k (by wtm_at "sm")) ex (.own _) kd.k8 ?_
  wtm_at "s"
  refine kL (by simp) (fun l2 H5 nl2 s5 e5 => ?_)
  wtm_at "s"
  refine k_catN (by wtm_at "at") (by wtm_at "at") (by simp) (fun m2 H6 nm2 s6 e6 => ?_)
  wtm_at "s"
  refine k_isXone (xs := []) (kept_same k (by wtm_at "sm")) ex (.own _) kd.k9 ?_
  wtm_at "s"
  refine k_isXone (xs := []) (kept_same k (by wtm_at "sm")) ex (.own _) kd.k10 ?_
  wtm_at "s"
  refine k_isXone (xs := []) (kept_same k (by wtm_at "sm")) ex (.own _) kd.k11 ?_
  wtm_at "s"
  refine kL (by simp) (fun l3 H7 nl3 s7 e7 => ?_)
  wtm_at "s"
  refine k_catN (by wtm_at "at") (by wtm_at "at") (by simp) (fun m3 H8 nm3 s8 e8 => ?_)
  wtm_at "s"
  refine k_isXone (xs := []) (kept_same k (by wtm_at "sm")) ex (.own _) kd.k12 ?_
  wtm_at "s"
  refine k_isXone (xs := []) (kept_same k (by wtm_at "sm")) ex (.own _) kd.k13 ?_
  wtm_at "s"
  refine k_isXone (xs := []) (kept_same k (by wtm_at "sm")) ex (.own _) kd.k14 ?_
  wtm_at "s"
  refine kL (by simp) (fun l4 H9 nl4 s9 e9 => ?_)
  wtm_at "s"
  refine k_catN (by wtm_at "at") (by wtm_at "at") (by simp) (fun m4 H10 nm4 s10 e10 => ?_)
  wtm_at "s"
  refine k_isXone (xs := []) (kept_same k (by wtm_at "sm")) ex (.own _) te ?_
  wtm_at "s"
  refine k_isXone (xs := []) (kept_same k (by wtm_at "sm")) ex (.ty _) kd.ve ?_
  wtm_at "s"
  refine lc_pureR (by decide) (fun i => if w = i then some (.int (0 + (i : Nat))) else none) ?_ (fun P H11 nP s11 e11 => ?_)
  · intro i H' hi sm R R0 h1 h2
    have hL : H' m4 = some (.lst ((List.range 15).map fun j => V.bl (decide (w = j)))) := sm _ _ e10
    have hi' : i < 15 := hi
    wtm_at "s"
    refine k_ixL (sl hL) (v := .bl (decide (w = i))) ?_ ?_
    · rw [Int.zero_add]
      exact atI_nat (by rw [List.getElem?_map, List.getElem?_range hi']; rfl)
    · refine ⟨_, rfl, ?_⟩
      by_cases c : w = i
      · rw [if_pos (decide_eq_true c)]
        wtm_at "s"
        exact h1 _ (if_pos c)
      · rw [if_neg (by rw [decide_eq_false c]; exact Bool.false_ne_true)]
        exact h2 (if_neg c)
  · refine q P H11 ((show Same H _ by wtm_at "sm").free nP) (by wtm_at "sm") ?_
    rw [e11]
    have hw := kd.lt
    have h15 : w = 0 ∨ w = 1 ∨ w = 2 ∨ w = 3 ∨ w = 4 ∨ w = 5 ∨ w = 6 ∨ w = 7 ∨ w = 8 ∨ w = 9 ∨ w = 10 ∨ w = 11 ∨ w = 12 ∨ w = 13 ∨ w = 14 := by omega
    clear q te ex kd k e1 e3 e4 e5 e6 e7 e8 e9 e10 e11
    rcases h15 with rfl | rfl | rfl | rfl | rfl | rfl | rfl | rfl | rfl | rfl | rfl | rfl | rfl | rfl | rfl <;> rfl
abbrev sp_law_marks (K : PySem.W.Frag) (A : Ad) : Sp := fun vs H Q E => ∃ v0, vs = [v0] ∧ pr_law_marks K A v0 H Q E
theorem ok_law_marks (T : Txt K mg A) : FnOk P w K mg base CX0 1 A.a_law_marks A.d_law_marks ["_law_caught"] (sp_law_marks K A) := by
  refine T.F_law_marks.ok sc_law_marks (fun vs H Q E h => by obtain ⟨v0, rfl, _⟩ := h; rfl) (fun cdv A0 outer s H vs Q E hr h => ?_)
  obtain ⟨v0, rfl, h⟩ := h
  exact ⟨t_law_marks K A, (pss_cons (ps_set (i := 1) sc_law_marks.nd rfl (Or.inr rfl) (pe_lst (pa_cons (pe_callB q_isA (by rfl) T.z_isinstance (by decide +kernel) (pa_cons (pv 0) (pa_cons (pe_glob (v := .ref A.c_NoNet) (by rfl) T.k_NoNet rfl) pa_nil))) (pa_cons (pe_callB q_isA (by rfl) T.z_isinstance (by decide +kernel) (pa_cons (pv 0) (pa_cons (pe_glob (v := .ref A.c_OtherNet) (by rfl) T.k_OtherNet rfl) pa_nil))) (pa_cons (pe_callB q_isA (by rfl) T.z_isinstance (by decide +kernel) (pa_cons (pv 0) (pa_cons (pe_glob (v := .ref A.c_NoWay) (by rfl) T.k_NoWay rfl) pa_nil))) pa_nil)))))
      (pss_cons (ps_set (i := 1) sc_law_marks.nd rfl (Or.inr rfl) (pe_op op_cat (pv 1) (pe_lst (pa_cons (pe_callB q_isA (by rfl) T.z_isinstance (by decide +kernel) (pa_cons (pv 0) (pa_cons (pe_glob (v := .ref A.c_TooMany) (by rfl) T.k_TooMany rfl) pa_nil))) (pa_cons (pe_callB q_isA (by rfl) T.z_isinstance (by decide +kernel) (pa_cons (pv 0) (pa_cons (pe_glob (v := .ref A.c_NoHues) (by rfl) T.k_NoHues rfl) pa_nil))) (pa_cons (pe_callB q_isA (by rfl) T.z_isinstance (by decide +kernel) (pa_cons (pv 0) (pa_cons (pe_glob (v := .ref A.c_NoCrossing) (by rfl) T.k_NoCrossing rfl) pa_nil))) pa_nil))))))
      (pss_cons (ps_set (i := 1) sc_law_marks.nd rfl (Or.inr rfl) (pe_op op_cat (pv 1) (pe_lst (pa_cons (pe_callB q_isA (by rfl) T.z_isinstance (by decide +kernel) (pa_cons (pv 0) (pa_cons (pe_glob (v := .ref A.c_NoLot) (by rfl) T.k_NoLot rfl) pa_nil))) (pa_cons (pe_callB q_isA (by rfl) T.z_isinstance (by decide +kernel) (pa_cons (pv 0) (pa_cons (pe_glob (v := .ref A.c_NoPlace) (by rfl) T.k_NoPlace rfl) pa_nil))) (pa_cons (pe_callB q_isA (by rfl) T.z_isinstance (by decide +kernel) (pa_cons (pv 0) (pa_cons (pe_glob (v := .ref A.c_NoNumber) (by rfl) T.k_NoNumber rfl) pa_nil))) pa_nil))))))
      (pss_cons (ps_set (i := 1) sc_law_marks.nd rfl (Or.inr rfl) (pe_op op_cat (pv 1) (pe_lst (pa_cons (pe_callB q_isA (by rfl) T.z_isinstance (by decide +kernel) (pa_cons (pv 0) (pa_cons (pe_glob (v := .ref A.c_NoTurning) (by rfl) T.k_NoTurning rfl) pa_nil))) (pa_cons (pe_callB q_isA (by rfl) T.z_isinstance (by decide +kernel) (pa_cons (pv 0) (pa_cons (pe_glob (v := .ref A.c_NoTie) (by rfl) T.k_NoTie rfl) pa_nil))) (pa_cons (pe_callB q_isA (by rfl) T.z_isinstance (by decide +kernel) (pa_cons (pv 0) (pa_cons (pe_glob (v := .ref A.c_NoText) (by rfl) T.k_NoText rfl) pa_nil))) pa_nil))))))
      (pss_cons (ps_set (i := 1) sc_law_marks.nd rfl (Or.inr rfl) (pe_op op_cat (pv 1) (pe_lst (pa_cons (pe_callB q_isA (by rfl) T.z_isinstance (by decide +kernel) (pa_cons (pv 0) (pa_cons (pe_glob (v := .ref A.c_NoRow) (by rfl) T.k_NoRow rfl) pa_nil))) (pa_cons (pe_callB q_isA (by rfl) T.z_isinstance (by decide +kernel) (pa_cons (pv 0) (pa_cons (pe_glob (v := .ref A.c_NoName) (by rfl) T.k_NoName rfl) pa_nil))) (pa_cons (pe_callB q_isA (by rfl) T.z_isinstance (by decide +kernel) (pa_cons (pv 0) (pa_cons (pe_glob (v := .ref A.c_NoForm) (by rfl) T.k_NoForm rfl) pa_nil))) pa_nil))))))
      (pss_cons (ps_if (PW.pt (pw_or (pt_not (pt_val (pe_callB q_isA (by rfl) T.z_isinstance (by decide +kernel) (pa_cons (pv 0) (pa_cons (pe_glob (v := .ref A.c_TieError) (by rfl) T.k_TieError rfl) pa_nil))))) (pw_or1 (pt_not (pt_val (pe_callB q_isA (by rfl) T.z_isinstance (by decide +kernel) (pa_cons (pv 0) (pa_cons (pe_bltn (v := .ty "ValueError") (by rfl) T.z_ValueError (by decide +kernel) rfl) pa_nil)))))))) (pss_one (ps_ret (pe_lst pa_nil))) pss_nil)
      (pss_one (ps_ret (pe_lc (own := [("_law_k", 2)]) (by rfl) sc_law_marks.nd (pi_range1 (by rfl) T.z_range (pa_cons pe_int pa_nil)) (blkOk_by (own := [("_law_k", 2)]) (N := ["_law_caught", "_law_found", "_law_k"]) (sc := defScope s_law_marks) (by decide +kernel)) (fun _ _ _ _ _ => (pg_name (i := 2) sc_law_marks.nd rfl (Or.inl rfl))) (fun _ _ _ _ _ => (pts_one (pt_val (pe_ix ix_list (pv 1) (pv 2) (fun _ _ => rfl))))) (fun _ _ _ _ _ => (pv 2))))))))))), pure_law_marks T h⟩

/-- what a refusal does: it raises the w-th of the fifteen, with a dict of its own or with none -/
def AskX (K : PySem.W.Frag) (A : Ad) (H : Hp) (w : Nat) (E : XK) : Prop := (∀ C H', RefOk K A w C → Same H H' → E (.ref C) none H') ∧ ∀ C H' d f v, RefOk K A w C → Same H H' → H' d = none → E (.ref C) (some d) (upd H' d (.xd [(f, v)]))
theorem rep0 (n : Nat) : (List.replicate n [V.int 0]).flatten = List.map V.int (List.replicate n 0) := by
  induction n with
  | zero => rfl
  | succ n ih => rw [List.replicate_succ, List.flatten_cons, ih]; rfl
theorem tree0 {k : Nat} (h1 : 1 ≤ k) (h2 : k < 60) : TreeOk (List.replicate k 0) := by
  refine ⟨by simpa using h1, by simpa using h2, fun j hj => ?_⟩
  have : (List.replicate k (0 : Int)).getD j 0 = 0 := by
    rw [List.getD_eq_getElem?_getD]
    cases h : (List.replicate k (0 : Int))[j]? with
    | none => rfl
    | some x => exact List.eq_of_mem_replicate (List.mem_of_getElem? h)
  rw [this]; omega
def pr_law_asked (K : PySem.W.Frag) (A : Ad) (v0 v1 : V) (H : Hp) (Q : VK) (E : XK) : Prop := ∃ (w s : Nat), v0 = .int (w : Nat) ∧ v1 = .int (s : Nat) ∧ w < 8 ∧ 1 ≤ s ∧ s ≤ 59 ∧ AskX K A H w E
def t_law_asked (K : PySem.W.Frag) (A : Ad) (E : XK) : TS :=
  (tSeq (tAsg (tTup (tCons (tC (.str (Str.ofString "tree"))) (tCons (tOp rRep (tLst (tCons (tC (.int 0)) tNil)) (tVar 1)) tNil))) (gName 2))
    (tSeq (tIfS (tTest (tOp rEq (tVar 0) (tC (.int 0)))) (tDrop (tCall (sp_look_net K A) [] E (tCons (tTup (tCons (tC (.str (Str.ofString "line"))) (tCons (tOp xAdd (tC (.int 61)) (tVar 1)) tNil))) tNil))) tNext)
    (tSeq (tIfS (tTest (tOp rEq (tVar 0) (tC (.int 1)))) (tDrop (tCall (sp_line_hues K A) [] E (tCons (tVar 2) (tCons (tLst tNil) tNil)))) tNext)
    (tSeq (tIfS (tTest (tOp rEq (tVar 0) (tC (.int 2)))) (tDrop (tCall (sp_line_hues K A) [] E (tCons (tTup (tCons (tC (.str (Str.ofString "line"))) (tCons (tOp xAdd (tC (.int 1)) (tVar 1)) tNil))) (tCons (tLst (tCons (tTup (tCons (tVar 1) (tCons (tVar 1) tNil))) tNil)) tNil)))) tNext)
    (tSeq (tIfS (tTest (tOp rEq (tVar 0) (tC (.int 3)))) (tSeq (tAsg (tMake A.c_Giver (sp_Giver_init K A) [] E (tCons (tTup (tCons (tC (.str (Str.ofString "line"))) (tCons (tOp xAdd (tC (.int 1)) (tVar 1)) tNil))) tNil)) (gName 3))
    (tFor (iRng1 (tCons (tC (.int 41)) tNil)) (gName 4)
      (tDrop (tMeth A.c_Giver "put" (sp_Giver_put K A) [] E (tVar 3) (tCons (tTup (tCons (tC (.int 0)) (tCons (tC (.int 1)) tNil))) tNil))))) tNext)
    (tSeq (tIfS (tTest (tOp rEq (tVar 0) (tC (.int 4)))) (tDrop (tCall (sp_join_hues K A) [] E (tCons (tVar 2) (tCons (tLst tNil) (tCons (tLst tNil) tNil))))) tNext)
    (tSeq (tIfS (tTest (tOp rEq (tVar 0) (tC (.int 5)))) (tDrop (tCall (sp_cross_hues K A) [] E (tCons (tTup (tCons (tVar 1) (tCons (tLst (tCons (tTup (tCons (tC (.int 0)) (tCons (tVar 1) tNil))) tNil)) tNil))) tNil))) tNext)
    (tSeq (tIfS (tTest (tOp rEq (tVar 0) (tC (.int 6)))) (tDrop (tCall (sp_lot_bound K A) [] E (tCons (tTup (tCons (tC (.int 3)) (tCons (tLst (tCons (tTup (tCons (tC (.int 0)) (tCons (tC (.int 1)) tNil))) tNil)) tNil))) (tCons (tLst (tCons (tC (.int 0)) (tCons (tC (.int 1)) tNil))) tNil)))) tNext)
    (tIfS (tTest (tOp rEq (tVar 0) (tC (.int 7)))) (tDrop (tCall (sp_crossing_at K A) [] E (tCons (tVar 2) (tCons (tLst tNil) (tCons (tOp xAdd (tVar 1) (tC (.int 1))) tNil))))) tNext)))))))))
theorem pure_law_asked (T : Txt K mg A) {v0 v1 : V} {H : Hp} {Q : VK} {E : XK} (h : pr_law_asked K A v0 v1 H Q E) : t_law_asked K A E ⟨fun _ H' => Q .non H', Q, fun _ _ => False, fun _ _ => False⟩ [some v0, some v1, none, none, none] H := by
  obtain ⟨w, s, rfl, rfl, hw, z1, z2, q0, q1⟩ := h
  unfold t_law_asked
  wtm_at "s"
  refine kL (by simp) (fun l0 H1 nl0 s1 e1 => ?_)
  wtm_at "s"
  refine k_repN e1 (by omega) (by omega) (by simp; omega) (fun l1 H2 nl1 s2 e2 => ?_)
  rw [rep0, Int.toNat_natCast] at e2
  wtm_at "s"
  refine kT (by simp) (fun tn H3 ntn s3 e3 => ?_)
  have T3 := tree0 z1 (show s < 60 by omega)
  have dtn : ∀ G, Same H3 G → Dp K G (.ref tn) (Net.tree (List.replicate s 0)).d := fun G g => .tup (st_at e3 g) (.cons (.str _) (.cons (dpI_at e2 (s3.trans g)) .nil))
  have s03 : Same H H3 := s1.trans (s2.trans s3)
  clear s1 e1 nl0 s2 e2 nl1 s3 e3 ntn
  have h8 : w = 0 ∨ w = 1 ∨ w = 2 ∨ w = 3 ∨ w = 4 ∨ w = 5 ∨ w = 6 ∨ w = 7 := by omega
  have n2 : ∀ t : Nat, t = s → (2 : Int) ≤ 1 + (t : Int) ∧ (1 : Int) + (t : Int) ≤ 60 := fun t e => by omega
  rcases h8 with rfl | rfl | rfl | rfl | rfl | rfl | rfl | rfl
  · wtm_at "s"
    refine kT (by simp) (fun q1 H4 nq1 s4 f1 => ?_)
    wtm_at "s"
    exact ⟨_, rfl, ⟨Str.ofString "line", .inl (61 + (s : Nat))⟩, .tup (stp f1) (.cons (.str _) (.cons (.int _) .nil)), lens_l, .inl ⟨fun z => by have := aok_l.mp z; omega, q0 _ _ (ref_NoNet T) (s03.trans s4)⟩⟩
  · wtm_at "s"
    refine kL (by simp) (fun l H4 nl s4 f1 => ?_)
    wtm_at "s"
    exact ⟨_, _, rfl, .tree (List.replicate s 0), [], dtn _ s4, T3, .lst (sl f1) .nil, by decide, .inl ⟨of_decide_eq_false s_tl, q0 _ _ (ref_OtherNet T) (s03.trans s4)⟩⟩
  · wtm_at "s"
    refine kT (by simp) (fun a1 H4 na1 s4 f1 => ?_)
    wtm_at "s"
    refine kT (by simp) (fun a2 H5 na2 s5 f2 => ?_)
    wtm_at "s"
    refine kL (by simp) (fun a3 H6 na3 s6 f3 => ?_)
    wtm_at "s"
    exact ⟨_, _, rfl, .line (1 + (s : Nat)), [((s : Nat), (s : Nat))], .tup (st_at f1 (by wtm_at "sm")) (.cons (.str _) (.cons (.int _) .nil)), n2 s rfl, .lst (sl f3) (.cons (dp_of_pair (st_at f2 (by wtm_at "sm"))) .nil), by simp, .inr ⟨0, rfl, ⟨_, rfl, fun z => z.1 rfl, fun j u hj => absurd hj (Nat.not_lt_zero j)⟩, fun d nd => q1 _ _ _ _ _ (ref_NoWay T) (by wtm_at "sm") nd⟩⟩
  · wtm_at "s"
    refine kT (by simp) (fun a1 H4 na1 s4 f1 => ?_)
    wtm_at "s"
    refine k_newGv [] (fun x hx => by cases hx) (.tup (st_at f1 (Same.refl _)) (.cons (.str _) (.cons (.int _) .nil))) (n2 s rfl) (fun g H5 s5 ga fr => ?_)
    wtm_at "s"
    have s04 : Same H H4 := s03.trans s4
    have wok : isWay (.line (1 + (s : Nat))) 0 1 := ⟨by decide, by decide, by decide, by show (0 : Int) < 1 + (s : Nat); omega, by show (1 : Int) < 1 + (s : Nat); omega⟩
    clear f1 na1 dtn
    refine forR (fun i σ' G => i ≤ 40 ∧ ∃ (ws : List (Int × Int)) (es : List Ent) (hs os : List Int), es.length = i ∧ GvAt K A (hid [] G) g (1 + (s : Nat)) ws es hs os ∧ GvOk (1 + (s : Nat)) ws es hs os ∧ Same (hid g.cells H5) (hid g.cells G) ∧ ∃ k4, σ' = [some (.int ((3 : Nat) : Int)), some (.int (s : Nat)), some (.ref tn), some (.ref g.a), k4])
      ⟨by decide, [], [], [], [], rfl, ga, gv_ok0 _, Same.refl _, _, rfl⟩ ?_ ?_
    · rintro i σ' G hi ⟨i40, ws, es, hs, os, le, ga1, gok, S, k4, rfl⟩
      wtm_at "s"
      refine k_mF (ga1.same (hid_same _ _)).ins rfl ?_
      wtm_at "s"
      refine kT (by simp) (fun q1 G1 nq1 g1 f1 => ?_)
      have ga2 := ga1.same (hid_mono g1)
      have f1c : q1 ∉ g.cells := fun z => (ga1.same (hid_same _ _)).there q1 z nq1
      have fresh : Same H G1 := fun b o hb => by
        have hb4 := s04 _ _ hb
        have nb : b ∉ g.cells := fun z => by rw [fr b z] at hb4; cases hb4
        have := S b o (by rw [hid_ne nb]; exact s5 _ _ hb4)
        rw [hid_ne nb] at this
        exact g1 _ _ this
      wtm_at "s"
      exact ⟨_, _, rfl, g, _, [], ws, es, hs, os, 0, 1, rfl, ga2, gok, (fun x hx => by cases hx), dp_of_pair (stp (by rw [hid_ne f1c]; exact f1)), by omega, (fun z => absurd wok z), (fun _ l40 => q0 _ _ (ref_TooMany T) fresh), fun _ lt h j t G2 S2 lv hj ga3 gok3 => ⟨by omega, _, _, _, _, by simp [le], ga3, gok3, S.trans ((hid_mono g1).trans S2), _, rfl⟩⟩
    · rintro σ' G ⟨i40, _⟩
      exact absurd i40 (by decide)
  · wtm_at "s"
    refine kL (by simp) (fun a1 H4 na1 s4 f1 => ?_)
    wtm_at "s"
    refine kL (by simp) (fun a2 H5 na2 s5 f2 => ?_)
    wtm_at "s"
    exact ⟨_, _, _, rfl, List.replicate s 0, a2, dtn _ (by wtm_at "sm"), T3, .lst (sl (s5 _ _ f1)) .nil, rfl, f2, fun d nd => q1 _ _ _ _ _ (ref_NoHues T) (by wtm_at "sm") nd⟩
  · wtm_at "s"
    refine kT (by simp) (fun a1 H4 na1 s4 f1 => ?_)
    wtm_at "s"
    refine kL (by simp) (fun a2 H5 na2 s5 f2 => ?_)
    wtm_at "s"
    refine kT (by simp) (fun a3 H6 na3 s6 f3 => ?_)
    wtm_at "s"
    exact ⟨_, rfl, (s : Nat), [(0, (s : Nat))], .tup (stp f3) (.cons (.int _) (.cons (.lst (sl (s6 _ _ f2)) (.cons (dp_of_pair (st_at f1 (by wtm_at "sm"))) .nil)) .nil)), by simp, fun z => by have := (z.2.2.2 _ (List.mem_singleton.mpr rfl)).2.2; exact absurd this (Int.lt_irrefl _), q0 _ _ (ref_NoCrossing T) (by wtm_at "sm")⟩
  · wtm_at "s"
    refine kT (by simp) (fun a1 H4 na1 s4 f1 => ?_)
    wtm_at "s"
    refine kL (by simp) (fun a2 H5 na2 s5 f2 => ?_)
    wtm_at "s"
    refine kT (by simp) (fun a3 H6 na3 s6 f3 => ?_)
    wtm_at "s"
    refine kL (by simp) (fun a4 H7 na4 s7 f4 => ?_)
    wtm_at "s"
    exact ⟨_, _, rfl, 3, [(0, 1)], [0, 1], .tup (st_at f3 (by wtm_at "sm")) (.cons (.int _) (.cons (.lst (sl (s7 _ _ (s6 _ _ f2))) (.cons (dp_of_pair (st_at f1 (by wtm_at "sm"))) .nil)) .nil)), .lst (sl f4) (.cons (.int _) (.cons (.int _) .nil)), ⟨by decide, by decide, by decide, by decide⟩, by decide, fun z => absurd z.1 (by decide), fun H8 s8 => q0 _ _ (ref_NoLot T) (by wtm_at "sm")⟩
  · wtm_at "s"
    refine kL (by simp) (fun a1 H4 na1 s4 f1 => ?_)
    wtm_at "s"
    exact ⟨_, _, _, rfl, List.replicate s 0, (s : Int) + 1, rfl, dtn _ s4, T3, .lst (sl f1) .nil, by rw [List.length_replicate]; omega, q0 _ _ (ref_NoPlace T) (by wtm_at "sm")⟩
abbrev sp_law_asked (K : PySem.W.Frag) (A : Ad) : Sp := fun vs H Q E => ∃ v0 v1, vs = [v0, v1] ∧ pr_law_asked K A v0 v1 H Q E
theorem ok_law_asked (T : Txt K mg A) : FnOk P w K mg base (L2.CX P w) 7 A.a_law_asked A.d_law_asked ["_law_which", "_law_size"] (sp_law_asked K A) := by
  refine T.F_law_asked.okX sc_law_asked (fun vs H Q E h => by obtain ⟨v0, v1, rfl, _⟩ := h; rfl) (fun cdv A0 outer s H vs Q E hr h => ?_)
  obtain ⟨v0, v1, rfl, h⟩ := h
  exact ⟨t_law_asked K A E, (pss_cons (ps_set (i := 2) sc_law_asked.nd rfl (Or.inl rfl) (pe_tup (pa_cons pe_str (pa_cons (pe_op op_rep (pe_lst (pa_cons pe_int pa_nil)) (pv 1)) pa_nil))))
      (pss_cons (ps_if (pt_cmpR op_eq (pv 0) pe_int (nomark _)) (pss_one (ps_expr (pe_call (E := E) (ok_look_net T) (hr.mono (by decide)) (by rfl) T.g_look_net T.F_look_net.kp T.b_look_net .nil (passes_call (takes_of rfl rfl rfl rfl) (fun _ _ _ _ h => h)) (pa_cons (pe_tup (pa_cons pe_str (pa_cons (pe_op op_add pe_int (pv 1)) pa_nil))) pa_nil)))) pss_nil)
      (pss_cons (ps_if (pt_cmpR op_eq (pv 0) pe_int (nomark _)) (pss_one (ps_expr (pe_call (E := E) (ok_line_hues T) (hr.mono (by decide)) (by rfl) T.g_line_hues T.F_line_hues.kp T.b_line_hues .nil (passes_call (takes_of rfl rfl rfl rfl) (fun _ _ _ _ h => h)) (pa_cons (pv 2) (pa_cons (pe_lst pa_nil) pa_nil))))) pss_nil)
      (pss_cons (ps_if (pt_cmpR op_eq (pv 0) pe_int (nomark _)) (pss_one (ps_expr (pe_call (E := E) (ok_line_hues T) (hr.mono (by decide)) (by rfl) T.g_line_hues T.F_line_hues.kp T.b_line_hues .nil (passes_call (takes_of rfl rfl rfl rfl) (fun _ _ _ _ h => h)) (pa_cons (pe_tup (pa_cons pe_str (pa_cons (pe_op op_add pe_int (pv 1)) pa_nil))) (pa_cons (pe_lst (pa_cons (pe_tup (pa_cons (pv 1) (pa_cons (pv 1) pa_nil))) pa_nil)) pa_nil))))) pss_nil)
      (pss_cons (ps_if (pt_cmpR op_eq (pv 0) pe_int (nomark _)) (pss_cons (ps_set (i := 3) sc_law_asked.nd rfl (Or.inl rfl) (pe_make (E := E) T.M_Giver (ok_Giver_init T) (hr.mono (by decide)) (by rfl) T.k_Giver T.b_Giver_init .nil (passes_call (takes_of rfl rfl rfl rfl) (fun _ _ _ _ h => h)) (pa_cons (pe_tup (pa_cons pe_str (pa_cons (pe_op op_add pe_int (pv 1)) pa_nil))) pa_nil)))
      (pss_one (ps_for (passes_of rfl) rfl (pi_range1 (by rfl) T.z_range (pa_cons pe_int pa_nil)) (pg_name (i := 4) sc_law_asked.nd rfl (Or.inl rfl))
      (pss_one (ps_expr (pe_meth (E := E) (pv 3) T.K_Giver T.Me_Giver_put (ok_Giver_put T) (hr.mono (by decide)) T.b_Giver_put .nil (passes_call (takes_of rfl rfl rfl rfl) (fun _ _ _ _ h => h)) (pa_cons (pe_tup (pa_cons pe_int (pa_cons pe_int pa_nil))) pa_nil))))))) pss_nil)
      (pss_cons (ps_if (pt_cmpR op_eq (pv 0) pe_int (nomark _)) (pss_one (ps_expr (pe_call (E := E) (ok_join_hues T) (hr.mono (by decide)) (by rfl) T.g_join_hues T.F_join_hues.kp T.b_join_hues .nil (passes_call (takes_of rfl rfl rfl rfl) (fun _ _ _ _ h => h)) (pa_cons (pv 2) (pa_cons (pe_lst pa_nil) (pa_cons (pe_lst pa_nil) pa_nil)))))) pss_nil)
      (pss_cons (ps_if (pt_cmpR op_eq (pv 0) pe_int (nomark _)) (pss_one (ps_expr (pe_call (E := E) (ok_cross_hues T) (hr.mono (by decide)) (by rfl) T.g_cross_hues T.F_cross_hues.kp T.b_cross_hues .nil (passes_call (takes_of rfl rfl rfl rfl) (fun _ _ _ _ h => h)) (pa_cons (pe_tup (pa_cons (pv 1) (pa_cons (pe_lst (pa_cons (pe_tup (pa_cons pe_int (pa_cons (pv 1) pa_nil))) pa_nil)) pa_nil))) pa_nil)))) pss_nil)
      (pss_cons (ps_if (pt_cmpR op_eq (pv 0) pe_int (nomark _)) (pss_one (ps_expr (pe_call (E := E) (ok_lot_bound T) (hr.mono (by decide)) (by rfl) T.g_lot_bound T.F_lot_bound.kp T.b_lot_bound .nil (passes_call (takes_of rfl rfl rfl rfl) (fun _ _ _ _ h => h)) (pa_cons (pe_tup (pa_cons pe_int (pa_cons (pe_lst (pa_cons (pe_tup (pa_cons pe_int (pa_cons pe_int pa_nil))) pa_nil)) pa_nil))) (pa_cons (pe_lst (pa_cons pe_int (pa_cons pe_int pa_nil))) pa_nil))))) pss_nil)
      (pss_one (ps_if (pt_cmpR op_eq (pv 0) pe_int (nomark _)) (pss_one (ps_expr (pe_call (E := E) (ok_crossing_at T) (hr.mono (by decide)) (by rfl) T.g_crossing_at T.F_crossing_at.kp T.b_crossing_at .nil (passes_call (takes_of rfl rfl rfl rfl) (fun _ _ _ _ h => h)) (pa_cons (pv 2) (pa_cons (pe_lst pa_nil) (pa_cons (pe_op op_add (pv 1) pe_int) pa_nil)))))) pss_nil)))))))))), pure_law_asked T h⟩

def pr_law_refused (K : PySem.W.Frag) (A : Ad) (v0 v1 : V) (H : Hp) (Q : VK) (E : XK) : Prop := ∃ (w s : Nat), v0 = .int (w : Nat) ∧ v1 = .int (s : Nat) ∧ w < 8 ∧ 1 ≤ s ∧ s ≤ 59 ∧ ∀ p H', H p = none → Same H H' → H' p = some (.lst [.int (w : Nat)]) → Q (.ref p) H'
def t_law_refused (K : PySem.W.Frag) (A : Ad) : TS :=
  (tSeq (tAsg (tC .non) (gName 2))
    (tSeq (tTryK K (.ref A.c_TieError) 3 2 fun W => (tDrop (tCallS (sp_law_asked K A) (WE W) (tCons (tVar 0) (tCons (tVar 1) tNil)))))
    (tRet (tCall (sp_law_marks K A) [] E0 (tCons (tVar 2) tNil)))))
theorem pure_law_refused (T : Txt K mg A) {v0 v1 : V} {H : Hp} {Q : VK} {E : XK} (h : pr_law_refused K A v0 v1 H Q E) : t_law_refused K A ⟨fun _ H' => Q .non H', Q, fun _ _ => False, fun _ _ => False⟩ [some v0, some v1, none, none] H := by
  obtain ⟨w, s, rfl, rfl, hw, z1, z2, q⟩ := h
  unfold t_law_refused
  refine k_seq (k_set (k_c (k_seq (tryjoin (fun cls d σ' H1 => σ' = [some (.int (w : Nat)), some (.int (s : Nat)), some .non, none] ∧ ∃ C, cls = .ref C ∧ RefOk K A w C ∧ ((d = none ∧ Same H H1) ∨ ∃ dd f v H0, d = some dd ∧ Same H H0 ∧ H0 dd = none ∧ H1 = upd H0 dd (.xd [(f, v)]))) ?_ (fun rest => ?_)))))
  · rintro cls d σ' H1 ⟨rfl, C, rfl, ok, ⟨rfl, s1⟩ | ⟨dd, f, v, H0, rfl, s1, nd, rfl⟩⟩
    · refine k_caught (by show 3 < 4; decide) ok.up (fun e ne => ?_)
      have s2 := same_new (o := ExV (.ref C) none e) ne
      have kp : KeptAt (upd H1 e (ExV (.ref C) none e)) e C := ⟨none, upd_same, .inl rfl⟩
      generalize upd H1 e (ExV (.ref C) none e) = H2 at s2 kp ⊢
      wtm_at "s"
      exact ⟨_, rfl, e, C, w, rfl, kp, ok, fun p H3 np s3 e3 => q p H3 ((s1.trans s2).free np) ((s1.trans s2).trans s3) e3⟩
    · refine k_caught (by show 3 < 4; decide) ok.up (fun e ne => ?_)
      have s2 := (same_new (o := .xd [(f, v)]) nd).trans (same_new (o := ExV (.ref C) (some dd) e) ne)
      have e1 : upd (upd H0 dd (.xd [(f, v)])) e (ExV (.ref C) (some dd) e) e = some (ExV (.ref C) (some dd) e) := upd_same
      have e2 : upd (upd H0 dd (.xd [(f, v)])) e (ExV (.ref C) (some dd) e) dd = some (.xd [(f, v)]) := same_new ne _ _ upd_same
      generalize upd (upd H0 dd (.xd [(f, v)])) e (ExV (.ref C) (some dd) e) = H2 at s2 e1 e2 ⊢
      have kp : KeptAt H2 e C := ⟨_, e1, .inr ⟨_, _, rfl, e2⟩⟩
      wtm_at "s"
      exact ⟨_, rfl, e, C, w, rfl, kp, ok, fun p H3 np s3 e3 => q p H3 ((s1.trans s2).free np) ((s1.trans s2).trans s3) e3⟩
  refine k_try ?_
  wtm_at "s"
  exact ⟨_, _, rfl, w, s, rfl, rfl, hw, z1, z2, fun C H1 ok s1 => rest _ _ _ _ ⟨rfl, C, rfl, ok, .inl ⟨rfl, s1⟩⟩, fun C H1 d f v ok s1 nd => rest _ _ _ _ ⟨rfl, C, rfl, ok, .inr ⟨d, f, v, H1, rfl, s1, nd, rfl⟩⟩⟩
abbrev sp_law_refused (K : PySem.W.Frag) (A : Ad) : Sp := fun vs H Q E => ∃ v0 v1, vs = [v0, v1] ∧ pr_law_refused K A v0 v1 H Q E
theorem ok_law_refused (T : Txt K mg A) : FnOk P w K mg base CX0 8 A.a_law_refused A.d_law_refused ["_law_which", "_law_size"] (sp_law_refused K A) := by
  refine T.F_law_refused.ok sc_law_refused (fun vs H Q E h => by obtain ⟨v0, v1, rfl, _⟩ := h; rfl) (fun cdv A0 outer s H vs Q E hr h => ?_)
  obtain ⟨v0, v1, rfl, h⟩ := h
  exact ⟨t_law_refused K A, (pss_cons (ps_set (i := 2) sc_law_refused.nd rfl (Or.inl rfl) pe_non)
      (pss_cons (ps_try_kept (i := 3) (tb := fun W => (tDrop (tCallS (sp_law_asked K A) (WE W) (tCons (tVar 0) (tCons (tVar 1) tNil))))) (ts := fun _ _ _ => tAsg (tVar 3) (gName 2)) (Wout := fun _ _ _ _ => False) rfl rfl rfl sc_law_refused.nd rfl rfl ⟨by rfl, by decide, Or.inl T.k_TieError⟩ takes0
      (fun W pn xe tk _ => (pss_one (ps_expr (pe_callS (ok_law_asked T) (hr.mono (by decide)) (by rfl) T.g_law_asked T.F_law_asked.kp T.b_law_asked (fun σ => passAt tk σ) (pa_cons (pv 0) (pa_cons (pv 1) pa_nil))))))
      (fun a oe cls d pn hz hf => (pss_one (ps_set (i := 2) sc_law_refused.nd rfl (Or.inl rfl) (pv 3)))))
      (pss_one (ps_ret (pe_call (ok_law_marks T) (hr.mono (by decide)) (by rfl) T.g_law_marks T.F_law_marks.kp T.b_law_marks .nil pass0 (pa_cons (pv 2) pa_nil)))))), pure_law_refused T h⟩

/-- the law's outer loop: over [c] + script[:z] -/
theorem law_frameN {BODY : TS} {c z : Int} {N : Nat} {m : Nat} {a : Addr} {ns : List Int} {H : Hp} {Q : VK} {n0 : L2.St → Hp → Prop} {bk ct : L2.St → Hp → Prop} (hz : z = N) (hn : ns.length ≤ 63) (ha : SqL K H a (ns.map V.int)) (q : ∀ H', Q (.bl true) H')
    (body : ∀ (cell : Int) (l : List (Option V)) (H3 H4 : Hp) (nx : L2.St → Hp → Prop), l.length = m → Same H3 H4 →
      BODY ⟨fun σ' H' => Same H3 H' ∧ ∃ l' : List (Option V), l'.length = m + 1 ∧ σ' = some (.ref a) :: l', Q, nx, fun σ' H' => Same H3 H' ∧ ∃ l' : List (Option V), l'.length = m + 1 ∧ σ' = some (.ref a) :: l'⟩ (some (.ref a) :: some (.int cell) :: l) H4) :
    tSeq (tFor (iList K (tOp rCat (tLst (tCons (tC (.int c)) tNil)) (tSl (rSlL K) (tVar 0) tNoPart (tPart (tC (.int z)))))) (gName 1) BODY) (tRet (tC (.bl true))) ⟨n0, Q, bk, ct⟩ (some (.ref a) :: List.replicate (m + 1) none) H := by
  wtm_at "s"
  refine ⟨sz (by simp), fun l1 n1 => ?_⟩
  have s1 := same_new (o := .lst [.int c]) n1
  have e1 := upd_same (H := H) (a := l1) (o := .lst [.int c])
  generalize upd H l1 (.lst [.int c]) = H1 at s1 e1 ⊢
  wtm_at "s"
  refine ⟨a, _, rfl, s1.seq ha, fun l2 n2 => ?_⟩
  rw [hz, cutTo N]
  have s2 := same_new (o := .lst ((ns.take N).map V.int)) n2
  have e2 := upd_same (H := H1) (a := l2) (o := .lst ((ns.take N).map V.int))
  generalize upd H1 l2 (.lst ((ns.take N).map V.int)) = H2 at s2 e2 ⊢
  refine k_cat (s2 _ _ e1) e2 (by simp; omega) (fun l3 n3 => ?_)
  have e3 : upd H2 l3 (.lst ([.int c] ++ (ns.take N).map V.int)) l3 = some (.lst ((c :: ns.take N).map V.int)) := upd_same
  generalize upd H2 l3 (.lst ([.int c] ++ (ns.take N).map V.int)) = H3 at e3 ⊢
  wtm_at "s"
  refine forL (sl e3) (fun i σ' H' => Same H3 H' ∧ ∃ l' : List (Option V), l'.length = m + 1 ∧ σ' = some (.ref a) :: l') ⟨Same.refl _, List.replicate (m + 1) none, by simp, rfl⟩ (fun i σ' H' _ e => e.1.seq (sl e3)) ?_ ?_
  · rintro i x σ' H4 hx ⟨sm, l', hl', rfl⟩
    rw [List.getElem?_map] at hx
    obtain ⟨cell, _, rfl⟩ := Option.map_eq_some_iff.mp hx
    cases l' with
    | nil => simp at hl'
    | cons y l => exact body cell l H3 H4 _ (by simpa using hl') sm
  · rintro σ' H' ⟨sm, l', hl', rfl⟩
    wtm_at "s"
    exact q _
/-- a comprehension over a list, each turn gives a new thing of which F tells the data -/
theorem lc_dp {σ : L2.St} {vs : List Nat} {g : TG} {te : TE} {H1 : Hp} {QD : Addr → Hp → Prop} {α : Type} {a : Addr} {xs : List V} (S0 : List Addr) (hS : ∀ b ∈ S0, H1 b ≠ none) (hs : SqL K H1 a xs) (ps : List α) (hl : xs.length = ps.length) (hz : ps.length ≤ 50000) (F : α → PyData)
    (step : ∀ (i : Nat) x p H', xs[i]? = some x → ps[i]? = some p → Same H1 H' → ∀ (R : V → Hp → Prop), (∀ y H'', Same H' H'' → (∀ S : List Addr, (∀ b ∈ S, H' b ≠ none) → Dp K (hid S H'') y (F p)) → R y H'') →
      g x (wipe σ vs) H' fun σ2 H2 => wipe σ2 vs = wipe σ vs ∧ te σ2 H2 R)
    (h : ∀ D ys H', H1 D = none → Same H1 H' → H' D = some (.lst ys) → DpAll K (hid (D :: S0) H') ys (ps.map F) → QD D H') (hg : ∀ x σ' H (q q' : L2.St → Hp → Prop), (∀ s H, q s H → q' s H) → g x σ' H q → g x σ' H q') :
    ∃ a', V.ref a = .ref a' ∧ (∃ xs, SqL K H1 a' xs) ∧ ∀ D, H1 D = none → ∃ W : Nat → Nat → Hp → Prop, (∃ m, W 0 m (upd H1 D (.lst []))) ∧ ∀ i m H, W i m H →
      ((Itl K a').stop i H ∧ QD D H) ∨ ((Itl K a').go i H ∧ ∃ Nx : Hp → Prop, (∀ H', Nx H' → ∃ m', m' < m ∧ W (i + 1) m' H') ∧ ∀ x H', (Itl K a').yld i H x H' → g x (wipe σ vs) H' fun σ2 H2 => wipe σ2 vs = wipe σ vs ∧ tYes σ2 H2 fun b H3 =>
        if b = true then te σ2 H3 fun y H4 => ∃ acc, H4 D = some (.lst acc) ∧ acc.length < sizeLine ∧ Nx (upd H4 D (.lst (acc ++ [y]))) else Nx H3) := by
  refine ⟨a, rfl, ⟨xs, hs⟩, fun D nD => lc_list (xs := xs) (fun i H => Same H1 H ∧ ∃ ys, H D = some (.lst ys) ∧ ys.length = i ∧ DpAll K (hid (D :: S0) H) ys ((ps.take i).map F)) ⟨same_new nD, [], upd_same, rfl, .nil⟩ (fun i H _ e => e.1.seq hs) ?_ ?_⟩
  · rintro i x H hx ⟨sm, ys, hD, hly, hys⟩
    have hi : i < xs.length := (List.getElem?_eq_some_iff.mp hx).1
    obtain ⟨p, hp⟩ : ∃ p, ps[i]? = some p := ⟨ps[i]'(by omega), List.getElem?_eq_getElem (by omega)⟩
    refine hg _ _ _ _ _ (fun s2 H2 hh => ⟨hh.1, k_yes (iteT hh.2)⟩) (step i x p H hx hp sm _ (fun y H'' s2 dy => ⟨ys, s2 _ _ hD, szl (by omega), same_mut (sm.trans s2) nD, ys ++ [y], upd_same, by simp [hly], ?_⟩))
    rw [hid_upd (by simp), List.take_add_one, hp, List.map_append]
    refine dpa_app (dpa_same (hid_mono s2) hys) (.cons (dy _ fun b hb => ?_) .nil)
    rcases List.mem_cons.mp hb with e | hb
    · rw [e, hD]; exact fun z => nomatch z
    · intro z
      exact hS b hb (sm.free z)
  · rintro H ⟨sm, ys, hD, hly, hys⟩
    rw [hl, List.take_length] at hys
    exact h D ys H nD sm hD hys

theorem far29 : 0 < (10 : Int) ^ (29 : Int).toNat ∧ (10 : Int) ^ (29 : Int).toNat < 2 ^ 200 := by decide +kernel
theorem k_mkAt {C : Addr} {f : Str} {v : V} {ta : TA} {σ : L2.St} {H : Hp} {Q : VK} (hta : ∀ (R : List V → Hp → Prop), R [v] H → ta σ H R) (h : ∀ a d H', H a = none → Same H H' → H' a = some (ExV (.ref C) (some d) a) → H' d = some (.xd [(f, v)]) → Q (.ref a) H') : tMkV C (spInit C f) ta σ H Q :=
  k_mkV hta fun d a nd na => h a d _ ((same_new nd).free na) ((same_new nd).trans (same_new na)) upd_same (same_new na _ _ upd_same)
def sp_law (K : PySem.W.Frag) : Sp := fun vs H Q _ => ∃ (a : Addr) (ns : List Int), vs = [.ref a] ∧ SqL K H a (ns.map V.int) ∧ ns.length ≤ 63 ∧ ∀ H', Q (.bl true) H'
def t_law (K : PySem.W.Frag) (A : Ad) : TS :=
  (tSeq (tFor (iList K (tOp rCat (tLst (tCons (tC (.int 0)) tNil)) (tSl (rSlL K) (tVar 0) tNoPart (tPart (tC (.int 20)))))) (gName 1)
      (tSeq (tAsg (tCall (sp_law_left K) [] E0 (tCons (tLst (tCons (tVar 1) tNil)) (tCons (tC (.int 0)) tNil))) (gName 2))
    (tSeq (tAsg (tOp xAdd (tC (.int 1)) (tCall (sp_law_draw K) [] E0 (tCons (tVar 2) (tCons (tC (.int 59)) tNil)))) (gName 3))
    (tSeq (tAsg (tOp (rIxL K) (tLst (tCons (tC .non) (tCons (tC (.int 0)) (tCons (tCall (sp_law_draw K) [] E0 (tCons (tVar 2) (tCons (tOp xPow (tC (.int 10)) (tC (.int 29))) tNil))) (tCons (tOp xSub (tUn xNeg (tC (.int 1))) (tCall (sp_law_draw K) [] E0 (tCons (tVar 2) (tCons (tOp xPow (tC (.int 10)) (tC (.int 29))) tNil)))) tNil))))) (tCall (sp_law_draw K) [] E0 (tCons (tVar 2) (tCons (tC (.int 4)) tNil)))) (gName 4))
    (tSeq (tAsg (tOp (rIxL K) (tLst (tCons (tVar 4) (tCons (tC (.int 7)) tNil))) (tCB rIntOf (tCons (tOp xIsN (tVar 4) (tC .non)) tNil))) (gName 5))
    (tSeq (tAsg (tLst (tCons (tMkV A.c_NoWay (spInit A.c_NoWay (Str.ofString "at")) (tCons (tVar 4) tNil)) (tCons (tMkV A.c_NoHues (spInit A.c_NoHues (Str.ofString "place")) (tCons (tVar 4) tNil)) (tCons (tMkV A.c_NoText (spInit A.c_NoText (Str.ofString "row")) (tCons (tVar 5) tNil)) tNil)))) (gName 6))
    (tSeq (tIfS (tTest (tOp (rNeD K) (tLst (tCons (tXat K (Str.ofString "at") (tOp (rIxL K) (tVar 6) (tC (.int 0)))) (tCons (tXat K (Str.ofString "place") (tOp (rIxL K) (tVar 6) (tC (.int 1)))) (tCons (tXat K (Str.ofString "row") (tOp (rIxL K) (tVar 6) (tC (.int 2)))) tNil)))) (tLst (tCons (tVar 4) (tCons (tVar 4) (tCons (tVar 5) tNil)))))) (tRet (tC (.bl false))) tNext)
    (tSeq (tIfS (tTest (tOp (rNeD K) (tLc (iList K (tVar 6)) (gName 7) tYes (tCall (sp_law_marks K A) [] E0 (tCons (tVar 7) tNil)) [7]) (tLst (tCons (tLst (tCons (tC (.int 2)) tNil)) (tCons (tLst (tCons (tC (.int 4)) tNil)) (tCons (tLst (tCons (tC (.int 11)) tNil)) tNil)))))) (tRet (tC (.bl false))) tNext)
    (tIfS (tTest (tOp (rNeD K) (tLc (iRng1 (tCons (tC (.int 8)) tNil)) (gName 8) tYes (tCall (sp_law_refused K A) [] E0 (tCons (tVar 8) (tCons (tVar 3) tNil))) [8]) (tLc (iRng1 (tCons (tC (.int 8)) tNil)) (gName 9) tYes (tLst (tCons (tVar 9) tNil)) [9]))) (tRet (tC (.bl false))) tNext)))))))))
    (tRet (tC (.bl true))))
theorem pure_law (T : Txt K mg A) {v0 : V} {H : Hp} {Q : VK} (h : ∃ (a : Addr) (ns : List Int), v0 = .ref a ∧ SqL K H a (ns.map V.int) ∧ ns.length ≤ 63 ∧ ∀ H', Q (.bl true) H') : t_law K A ⟨fun _ H' => Q .non H', Q, fun _ _ => False, fun _ _ => False⟩ [some v0, none, none, none, none, none, none, none, none, none] H := by
  obtain ⟨a, ns, rfl, ha, hz, q⟩ := h
  unfold t_law
  refine law_frameN (m := 8) (N := 20) rfl hz ha q ?_
  clear ha hz q H ns
  intro cell l H3 H4 nx hl sm
  match l, hl with
  | [k2, k3, k4, k5, k6, k7, k8, k9], _ =>
  wtm_at "s"
  refine kL (by simp) (fun c1 H5 nc1 s5 ec1 => ?_)
  wtm_at "s"
  refine ⟨_, _, rfl, c1, [cell], 0, rfl, rfl, sl ec1, by decide, fun pu H6 npu s6 L6 => ?_⟩
  have h0 : Same H3 (hid [pu] H6) := sm.trans (s5.trans ((hid_free1 npu).trans (hid_mono s6)))
  clear sm s5 s6 npu ec1 nc1
  wtm_at "s"
  refine ⟨_, _, rfl, pu, 0, 59, rfl, rfl, L6, by decide, by decide, by decide, fun r H7 r0 r1 L7 S7 => ?_⟩
  wtm_at "s"
  obtain ⟨s, rfl⟩ : ∃ t : Nat, r = t := ⟨r.toNat, by omega⟩
  refine ⟨_, _, rfl, pu, _, _, rfl, rfl, L7, by omega, far29.1, far29.2, fun d1 H8 d10 d11 L8 S8 => ?_⟩
  wtm_at "s"
  refine ⟨_, _, rfl, pu, _, _, rfl, rfl, L8, by omega, far29.1, far29.2, fun d2 H9 d20 d21 L9 S9 => ?_⟩
  wtm_at "s"
  refine kLp L9 (by simp) (fun l1 H10 nl1 s10 f1 => ?_)
  have L10 := L9.same s10
  wtm_at "s"
  refine ⟨_, _, rfl, pu, _, 4, rfl, rfl, L10, by omega, by decide, by decide, fun d3 H11 d30 d31 L11 S11 => ?_⟩
  replace h0 := h0.trans (S7.trans (S8.trans (S9.trans ((hid_mono s10).trans S11))))
  have f2 := S11 _ _ f1
  clear S7 S8 S9 s10 S11 f1 nl1 L6 L7 L8 L9 L10
  obtain ⟨v, hv, hk⟩ : ∃ v, atI [V.non, .int 0, .int d1, .int (-1 - d2)] d3 = some v ∧ (v = .non ∨ ∃ i, v = .int i) := by
    have hm : d3 = 0 ∨ d3 = 1 ∨ d3 = 2 ∨ d3 = 3 := by omega
    rcases hm with h | h | h | h <;> rw [h]
    · exact ⟨_, rfl, .inl rfl⟩
    · exact ⟨_, rfl, .inr ⟨_, rfl⟩⟩
    · exact ⟨_, rfl, .inr ⟨_, rfl⟩⟩
    · exact ⟨_, rfl, .inr ⟨_, rfl⟩⟩
  wtm_at "s"
  refine k_ixL (sl (hid_same _ _ _ _ f2)) hv ?_
  clear hv f2 d30 d31 d10 d11 d20 d21
  refine k_gname (seqO (fun σ' H' => (∃ i, σ' = [some (.ref a), some (.int cell), some (.ref pu), some (.int (1 + (s : Nat))), some v, some (.int i), k6, k7, k8, k9]) ∧ Same H11 H') ?_ (fun nx' go => ?_))
  case refine_2 =>
    wtm_at "s"
    refine kL (by simp) (fun l2 H12 nl2 s12 f3 => ?_)
    rcases hk with rfl | ⟨i, rfl⟩
    · wtm_at "s"
      refine k_ixL (sl f3) (v := .int 7) rfl ?_
      exact go _ _ ⟨⟨_, rfl⟩, s12⟩
    · wtm_at "s"
      refine k_ixL (sl f3) (v := .int i) rfl ?_
      exact go _ _ ⟨⟨_, rfl⟩, s12⟩
  rintro σ' H12 ⟨⟨ro, rfl⟩, s12⟩
  replace h0 := (h0.trans (hid_mono s12)).trans (hid_same _ _)
  clear L11 s12
  obtain ⟨D, dv, shD⟩ : ∃ D : PyData, (∀ G, Dp K G v D) ∧ Sh 0 D := by
    rcases hk with rfl | ⟨i, rfl⟩
    · exact ⟨.none, fun G => .non, sh_none⟩
    · exact ⟨.int i, fun G => .int i, sh_int⟩
  clear hk
  wtm_at "s"
  refine k_mkAt (fun R hR => by wtm_at "s"; exact hR) (fun x0 dd0 G1 nx0 g1 ex0 ed0 => ?_)
  wtm_at "s"
  refine k_mkAt (fun R hR => by wtm_at "s"; exact hR) (fun x1 dd1 G2 nx1 g2 ex1 ed1 => ?_)
  wtm_at "s"
  refine k_mkAt (fun R hR => by wtm_at "s"; exact hR) (fun x2 dd2 G3 nx2 g3 ex2 ed2 => ?_)
  wtm_at "s"
  refine kL (by simp) (fun lm G4 nlm g4 em => ?_)
  replace ex0 := (g2.trans (g3.trans g4)) _ _ ex0
  replace ed0 := (g2.trans (g3.trans g4)) _ _ ed0
  replace ex1 := (g3.trans g4) _ _ ex1
  replace ed1 := (g3.trans g4) _ _ ed1
  replace ex2 := g4 _ _ ex2
  replace ed2 := g4 _ _ ed2
  replace h0 := h0.trans (g1.trans (g2.trans (g3.trans g4)))
  clear g1 g2 g3 g4 nx0 nx1 nx2
  wtm_at "s"
  refine k_ixL (sl em) (v := .ref x0) rfl ?_
  refine ⟨x0, A.c_NoWay, dd0, _, _, rfl, ex0, T.x_NoWay.xf, T.nf_NoWay, ed0, rfl, ?_⟩
  wtm_at "s"
  refine k_ixL (sl em) (v := .ref x1) rfl ?_
  refine ⟨x1, A.c_NoHues, dd1, _, _, rfl, ex1, T.x_NoHues.xf, T.nf_NoHues, ed1, rfl, ?_⟩
  wtm_at "s"
  refine k_ixL (sl em) (v := .ref x2) rfl ?_
  refine ⟨x2, A.c_NoText, dd2, _, _, rfl, ex2, T.x_NoText.xf, T.nf_NoText, ed2, rfl, ?_⟩
  wtm_at "s"
  refine kL (by simp) (fun la G5 nla g5 ea => ?_)
  wtm_at "s"
  refine kL (by simp) (fun lb G6 nlb g6 eb => ?_)
  refine k_neD0 (c := .list [D, D, .int ro]) (n := 1) (.lst (sl (g6 _ _ ea)) (.cons (dv _) (.cons (dv _) (.cons (.int _) .nil)))) (.lst (sl eb) (.cons (dv _) (.cons (dv _) (.cons (.int _) .nil)))) (sh_list fun d hd => ?_) (by decide) ?_
  · simp only [List.mem_cons, List.not_mem_nil, or_false] at hd
    rcases hd with rfl | rfl | rfl
    · exact shD
    · exact shD
    · exact sh_int
  have g56 := g5.trans g6
  have kp0 : KeptAt G6 x0 A.c_NoWay := ⟨_, g56 _ _ ex0, .inr ⟨_, _, rfl, g56 _ _ ed0⟩⟩
  have kp1 : KeptAt G6 x1 A.c_NoHues := ⟨_, g56 _ _ ex1, .inr ⟨_, _, rfl, g56 _ _ ed1⟩⟩
  have kp2 : KeptAt G6 x2 A.c_NoText := ⟨_, g56 _ _ ex2, .inr ⟨_, _, rfl, g56 _ _ ed2⟩⟩
  replace em := g56 _ _ em
  replace h0 := h0.trans g56
  clear g5 g6 g56 ex0 ex1 ex2 ed0 ed1 ed2 ea eb nla nlb
  wtm_at "s"
  refine lc_dp [] (fun x hx => by cases hx) (sl em) ([2, 4, 11] : List Nat) (by rfl) (by decide) (fun w : Nat => dInts [(w : Int)]) ?_ (fun P ys G7 nP g7 eP dP => ?_) (fun x σ' H q q' h hh => h _ _ hh)
  · intro i x w H' hx hw sm R g
    have hm : ∃ C, KeptAt H' (match x with | .ref y => y | _ => 0) C ∧ RefOk K A w C ∧ ∃ y, x = .ref y := by
      have hi : i = 0 ∨ i = 1 ∨ i = 2 := by have := (List.getElem?_eq_some_iff.mp hx).1; simp at this; omega
      rcases hi with rfl | rfl | rfl <;> cases hx <;> cases hw
      · exact ⟨_, kept_same kp0 sm, ref_NoWay T, _, rfl⟩
      · exact ⟨_, kept_same kp1 sm, ref_NoHues T, _, rfl⟩
      · exact ⟨_, kept_same kp2 sm, ref_NoText T, _, rfl⟩
    obtain ⟨C, kp, ok, y, rfl⟩ := hm
    wtm_at "s"
    refine ⟨_, rfl, y, C, w, rfl, kp, ok, fun p H2 np s2 e2 => ?_⟩
    exact g _ H2 s2 (fun S hS => dp_of_ints (ns := [(w : Int)]) (sl (by rw [hid_ne (fun z => hS p z np)]; exact e2)))
  clear kp0 kp1 kp2 em nlm
  wtm_at "s"
  refine kL (by simp) (fun l1 G8 nl1 g8 f1 => ?_)
  wtm_at "s"
  refine kL (by simp) (fun l2 G9 nl2 g9 f2 => ?_)
  wtm_at "s"
  refine kL (by simp) (fun l3 GA nl3 gA f3 => ?_)
  wtm_at "s"
  refine kL (by simp) (fun l4 GB nl4 gB f4 => ?_)
  have g7B : Same G7 GB := g8.trans (g9.trans (gA.trans gB))
  have dl : ∀ (l : Addr) (w : Int) G, G l = some (.lst [.int w]) → Dp K G (.ref l) (dInts [w]) := fun l w G e => dp_of_ints (ns := [w]) (sl e)
  refine k_neD0 (c := .list (List.map (fun w : Nat => dInts [(w : Int)]) [2, 4, 11])) (n := 3) (.lst (sl (g7B _ _ eP)) (dpa_same ((hid_same _ _).trans g7B) dP)) (.lst (sl f4) (.cons (dl _ _ _ (gB _ _ (gA _ _ (g9 _ _ f1)))) (.cons (dl _ _ _ (gB _ _ (gA _ _ f2))) (.cons (dl _ _ _ (gB _ _ f3)) .nil)))) (sh_list fun d hd => ?_) (by decide) ?_
  · obtain ⟨w, _, rfl⟩ := List.mem_map.mp hd
    exact sh_ints _
  replace h0 := h0.trans (g7.trans g7B)
  clear g7 g8 g9 gA gB g7B f1 f2 f3 f4 nl1 nl2 nl3 nl4 dl dP eP nP
  wtm_at "s"
  refine lc_dpR (K := K) [] (fun b hb => by cases hb) (by decide) (fun i => dInts [(i : Int)]) ?_ (fun P1 ys1 GC nP1 gC eP1 dP1 => ?_) (fun x σ' H q q' h hh => h _ _ hh)
  · intro i H' hi sm S R hS hR
    have hi : i < 8 := hi
    wtm_at "s"
    refine ⟨_, _, rfl, i, s + 1, by rw [Int.zero_add], by rw [show (1 : Int) + (s : Int) = ((s + 1 : Nat) : Int) by omega], hi, by omega, by omega, fun p H2 np s2 e2 => ?_⟩
    exact hR _ H2 s2 (dp_of_ints (ns := [(i : Int)]) (sl (by rw [hid_ne (fun z => hS p z np)]; exact e2)))
  wtm_at "s"
  refine lc_dpR (K := K) [] (fun b hb => by cases hb) (by decide) (fun i => dInts [(i : Int)]) ?_ (fun P2 ys2 GD nP2 gD eP2 dP2 => ?_) (fun x σ' H q q' h hh => h _ _ hh)
  · intro i H' hi sm S R hS hR
    simp only [Int.zero_add]
    wtm_at "s"
    refine kL (by simp) (fun p H2 np s2 e2 => ?_)
    exact hR _ H2 s2 (dp_of_ints (ns := [(i : Int)]) (sl (by rw [hid_ne (fun z => hS p z np)]; exact e2)))
  refine k_neD0 (n := 3) (.lst (sl (gD _ _ eP1)) (dpa_same ((hid_same _ _).trans gD) dP1)) (.lst (sl eP2) (dpa_same (hid_same _ _) dP2)) (sh_list fun d hd => ?_) (by decide) ?_
  · obtain ⟨w, _, rfl⟩ := List.mem_map.mp hd
    exact sh_ints _
  wtm_at "s"
  exact ⟨h0.trans (gC.trans gD), _, rfl, rfl⟩
theorem ok_law (T : Txt K mg A) : FnOk P w K mg base CX0 9 A.a_law A.d_law ["_law_script"] (sp_law K) := by
  refine T.F_law.ok sc_law (fun vs H Q E h => by obtain ⟨a, ns, rfl, _⟩ := h; rfl) (fun cdv A0 outer s H vs Q E hr h => ?_)
  obtain ⟨a, ns, rfl, h⟩ := h
  exact ⟨t_law K A, (pss_cons (ps_for PassesOwn.never rfl (pi_list (pe_op op_cat (pe_lst (pa_cons pe_int pa_nil)) (pe_slice sl_list (pv 0) po_none (po_some pe_int)))) (pg_name (i := 1) sc_law.nd rfl (Or.inl rfl))
      (pss_cons (ps_set (i := 2) sc_law.nd rfl (Or.inl rfl) (pe_call (ok_law_left T) (hr.mono (by decide)) (by rfl) T.g_law_left T.F_law_left.kp T.b_law_left .nil pass0 (pa_cons (pe_lst (pa_cons (pv 1) pa_nil)) (pa_cons pe_int pa_nil))))
      (pss_cons (ps_set (i := 3) sc_law.nd rfl (Or.inr rfl) (pe_op op_add pe_int (pe_call (ok_law_draw T) (hr.mono (by decide)) (by rfl) T.g_law_draw T.F_law_draw.kp T.b_law_draw .nil pass0 (pa_cons (pv 2) (pa_cons pe_int pa_nil)))))
      (pss_cons (ps_set (i := 4) sc_law.nd rfl (Or.inl rfl) (pe_ix ix_list (pe_lst (pa_cons pe_non (pa_cons pe_int (pa_cons (pe_call (ok_law_draw T) (hr.mono (by decide)) (by rfl) T.g_law_draw T.F_law_draw.kp T.b_law_draw .nil pass0 (pa_cons (pv 2) (pa_cons (pe_op op_pow pe_int pe_int) pa_nil))) (pa_cons (pe_op op_sub (pe_un un_neg pe_int) (pe_call (ok_law_draw T) (hr.mono (by decide)) (by rfl) T.g_law_draw T.F_law_draw.kp T.b_law_draw .nil pass0 (pa_cons (pv 2) (pa_cons (pe_op op_pow pe_int pe_int) pa_nil)))) pa_nil))))) (pe_call (ok_law_draw T) (hr.mono (by decide)) (by rfl) T.g_law_draw T.F_law_draw.kp T.b_law_draw .nil pass0 (pa_cons (pv 2) (pa_cons pe_int pa_nil))) (fun _ _ => rfl)))
      (pss_cons (ps_set (i := 5) sc_law.nd rfl (Or.inl rfl) (pe_ix ix_list (pe_lst (pa_cons (pv 4) (pa_cons pe_int pa_nil))) (pe_callTy q_intB (by rfl) T.z_int (by decide +kernel) (pa_cons (pe_cmpR op_isN (pv 4) pe_non (nomark _)) pa_nil)) (fun _ _ => rfl)))
      (pss_cons (ps_set (i := 6) sc_law.nd rfl (Or.inl rfl) (pe_lst (pa_cons (pe_of_mk (pmk_oex T.o_NoWay T.in_NoWay T.ti_NoWay (ok_init_NoWay T) (hr.mono (by decide)) T.bi_NoWay .nil pass0 (by rfl) T.k_NoWay (pa_cons (pv 4) pa_nil))) (pa_cons (pe_of_mk (pmk_oex T.o_NoHues T.in_NoHues T.ti_NoHues (ok_init_NoHues T) (hr.mono (by decide)) T.bi_NoHues .nil pass0 (by rfl) T.k_NoHues (pa_cons (pv 4) pa_nil))) (pa_cons (pe_of_mk (pmk_oex T.o_NoText T.in_NoText T.ti_NoText (ok_init_NoText T) (hr.mono (by decide)) T.bi_NoText .nil pass0 (by rfl) T.k_NoText (pa_cons (pv 5) pa_nil))) pa_nil)))))
      (pss_cons (ps_if (pt_cmpR (op_neD hr.units) (pe_lst (pa_cons (pe_xat (pe_ix ix_list (pv 6) pe_int (fun _ _ => rfl))) (pa_cons (pe_xat (pe_ix ix_list (pv 6) pe_int (fun _ _ => rfl))) (pa_cons (pe_xat (pe_ix ix_list (pv 6) pe_int (fun _ _ => rfl))) pa_nil)))) (pe_lst (pa_cons (pv 4) (pa_cons (pv 4) (pa_cons (pv 5) pa_nil)))) (nomark _)) (pss_one (ps_ret pe_bl)) pss_nil)
      (pss_cons (ps_if (pt_cmpR (op_neD hr.units) (pe_lc (own := [("_law_one", 7)]) (by rfl) sc_law.nd (pi_list (pv 6)) (blkOk_by (own := [("_law_one", 7)]) (N := ["_law_script", "_law_cell", "_law_left_here", "_law_size", "_law_number", "_law_row", "_law_made", "_law_one", "_law_which", "_law_k"]) (sc := defScope s_law) (by decide +kernel)) (fun _ _ _ _ _ => (pg_name (i := 7) sc_law.nd rfl (Or.inl rfl))) (fun _ _ _ _ _ => pts_nil) (fun _ _ _ _ _ => (pe_call (ok_law_marks T) (hr.mono (by decide)) (by rfl) T.g_law_marks T.F_law_marks.kp T.b_law_marks .nil pass0 (pa_cons (pv 7) pa_nil)))) (pe_lst (pa_cons (pe_lst (pa_cons pe_int pa_nil)) (pa_cons (pe_lst (pa_cons pe_int pa_nil)) (pa_cons (pe_lst (pa_cons pe_int pa_nil)) pa_nil)))) (nomark _)) (pss_one (ps_ret pe_bl)) pss_nil)
      (pss_one (ps_if (pt_cmpR (op_neD hr.units) (pe_lc (own := [("_law_which", 8)]) (by rfl) sc_law.nd (pi_range1 (by rfl) T.z_range (pa_cons pe_int pa_nil)) (blkOk_by (own := [("_law_which", 8)]) (N := ["_law_script", "_law_cell", "_law_left_here", "_law_size", "_law_number", "_law_row", "_law_made", "_law_one", "_law_which", "_law_k"]) (sc := defScope s_law) (by decide +kernel)) (fun _ _ _ _ _ => (pg_name (i := 8) sc_law.nd rfl (Or.inl rfl))) (fun _ _ _ _ _ => pts_nil) (fun _ _ _ _ _ => (pe_call (ok_law_refused T) (hr.mono (by decide)) (by rfl) T.g_law_refused T.F_law_refused.kp T.b_law_refused .nil pass0 (pa_cons (pv 8) (pa_cons (pv 3) pa_nil))))) (pe_lc (own := [("_law_k", 9)]) (by rfl) sc_law.nd (pi_range1 (by rfl) T.z_range (pa_cons pe_int pa_nil)) (blkOk_by (own := [("_law_k", 9)]) (N := ["_law_script", "_law_cell", "_law_left_here", "_law_size", "_law_number", "_law_row", "_law_made", "_law_one", "_law_which", "_law_k"]) (sc := defScope s_law) (by decide +kernel)) (fun _ _ _ _ _ => (pg_name (i := 9) sc_law.nd rfl (Or.inl rfl))) (fun _ _ _ _ _ => pts_nil) (fun _ _ _ _ _ => (pe_lst (pa_cons (pv 9) pa_nil)))) (nomark _)) (pss_one (ps_ret pe_bl)) pss_nil))))))))))
      (pss_one (ps_ret pe_bl))), pure_law T ⟨a, ns, rfl, h⟩⟩

theorem all_mk {l : PySem.W.OpenLaw} {w : World} {K : PySem.W.Frag} {h : Heap} {mg : Str → Option Value} {fa : Addr} {f0 f1 f2 f3 f4 f5 f6 f7 f8 f9 f10 f11 f12 f13 f14 f15 f16 f17 f18 f19 f20 f21 f22 f23 f24 f25 f26 f27 f28 f29 f30 f31 f32 : Addr} (X : K.In h) (G : h.Ns mainGlobals mg) (hfa : mg "law" = some (.ref fa))
    {od0 an0 od1 an1 od2 an2 od3 an3 od4 an4 od5 an5 od6 an6 od7 an7 od8 an8 od9 an9 od10 an10 od11 an11 od12 an12 od13 an13 od14 an14 od15 an15 od16 an16 od17 an17 od18 an18 od19 an19 od20 an20 od21 an21 od22 an22 od23 an23 od24 an24 od25 an25 od26 an26 od27 an27 od28 an28 od29 an29 od30 an30 od31 an31 od32 an32 : Option Addr} {sl0 sl1 sl2 sl3 sl4 sl5 sl6 sl7 sl8 sl9 sl10 sl11 sl12 sl13 sl14 sl15 sl16 sl17 sl18 sl19 sl20 sl21 sl22 sl23 sl24 sl25 sl26 sl27 sl28 sl29 sl30 sl31 sl32 : Array (Option Value)} {oc0 kV0 dc0 pm0 cd0 ct0 oc1 kV1 dc1 pm1 cd1 ct1 oc2 kV2 dc2 pm2 cd2 ct2 oc3 kV3 dc3 pm3 cd3 ct3 oc4 kV4 dc4 pm4 cd4 ct4 oc5 kV5 dc5 pm5 cd5 ct5 oc6 kV6 dc6 pm6 cd6 ct6 oc7 kV7 dc7 pm7 cd7 ct7 oc8 kV8 dc8 pm8 cd8 ct8 oc9 kV9 dc9 pm9 cd9 ct9 oc10 kV10 dc10 pm10 cd10 ct10 oc11 kV11 dc11 pm11 cd11 ct11 oc12 kV12 dc12 pm12 cd12 ct12 oc13 kV13 dc13 pm13 cd13 ct13 oc14 kV14 dc14 pm14 cd14 ct14 oc15 kV15 dc15 pm15 cd15 ct15 oc16 kV16 dc16 pm16 cd16 ct16 oc17 kV17 dc17 pm17 cd17 ct17 oc18 kV18 dc18 pm18 cd18 ct18 oc19 kV19 dc19 pm19 cd19 ct19 oc20 kV20 dc20 pm20 cd20 ct20 oc21 kV21 dc21 pm21 cd21 ct21 oc22 kV22 dc22 pm22 cd22 ct22 oc23 kV23 dc23 pm23 cd23 ct23 oc24 kV24 dc24 pm24 cd24 ct24 oc25 kV25 dc25 pm25 cd25 ct25 oc26 kV26 dc26 pm26 cd26 ct26 oc27 kV27 dc27 pm27 cd27 ct27 oc28 kV28 dc28 pm28 cd28 ct28 oc29 kV29 dc29 pm29 cd29 ct29 oc30 kV30 dc30 pm30 cd30 ct30 oc31 kV31 dc31 pm31 cd31 ct31 oc32 kV32 dc32 pm32 cd32 ct32 : Value}
    {tk0 tk1 tk2 tk3 : Tok}
    (a0 : PySem.W.nsIn K mainGlobals "must_be_crossing" = some (some (.ref f0))) (l0 : K.lookup f0 = some ⟨oc0, od0, .func (PySem.W.fnOf "must_be_crossing" "must_be_crossing" (defArgs s_must_be_crossing) (defBody s_must_be_crossing) (defScope s_must_be_crossing) .none kV0 dc0 pm0 an0 cd0 ct0), sl0⟩) (c0 : PySem.W.codeIn K cd0 "must_be_crossing" = true) (k0 : PySem.W.keepIn K (.ref f0) = true)
    (a1 : PySem.W.nsIn K mainGlobals "cross_hues" = some (some (.ref f1))) (l1 : K.lookup f1 = some ⟨oc1, od1, .func (PySem.W.fnOf "cross_hues" "cross_hues" (defArgs s_cross_hues) (defBody s_cross_hues) (defScope s_cross_hues) .none kV1 dc1 pm1 an1 cd1 ct1), sl1⟩) (c1 : PySem.W.codeIn K cd1 "cross_hues" = true) (k1 : PySem.W.keepIn K (.ref f1) = true)
    (a2 : PySem.W.nsIn K mainGlobals "is_lot" = some (some (.ref f2))) (l2 : K.lookup f2 = some ⟨oc2, od2, .func (PySem.W.fnOf "is_lot" "is_lot" (defArgs s_is_lot) (defBody s_is_lot) (defScope s_is_lot) .none kV2 dc2 pm2 an2 cd2 ct2), sl2⟩) (c2 : PySem.W.codeIn K cd2 "is_lot" = true) (k2 : PySem.W.keepIn K (.ref f2) = true)
    (a3 : PySem.W.nsIn K mainGlobals "lot_bound" = some (some (.ref f3))) (l3 : K.lookup f3 = some ⟨oc3, od3, .func (PySem.W.fnOf "lot_bound" "lot_bound" (defArgs s_lot_bound) (defBody s_lot_bound) (defScope s_lot_bound) .none kV3 dc3 pm3 an3 cd3 ct3), sl3⟩) (c3 : PySem.W.codeIn K cd3 "lot_bound" = true) (k3 : PySem.W.keepIn K (.ref f3) = true)
    (a4 : PySem.W.nsIn K mainGlobals "is_tree" = some (some (.ref f4))) (l4 : K.lookup f4 = some ⟨oc4, od4, .func (PySem.W.fnOf "is_tree" "is_tree" (defArgs s_is_tree) (defBody s_is_tree) (defScope s_is_tree) .none kV4 dc4 pm4 an4 cd4 ct4), sl4⟩) (c4 : PySem.W.codeIn K cd4 "is_tree" = true) (k4 : PySem.W.keepIn K (.ref f4) = true)
    (a5 : PySem.W.nsIn K mainGlobals "look_net" = some (some (.ref f5))) (l5 : K.lookup f5 = some ⟨oc5, od5, .func (PySem.W.fnOf "look_net" "look_net" (defArgs s_look_net) (defBody s_look_net) (defScope s_look_net) .none kV5 dc5 pm5 an5 cd5 ct5), sl5⟩) (c5 : PySem.W.codeIn K cd5 "look_net" = true) (k5 : PySem.W.keepIn K (.ref f5) = true)
    (a6 : PySem.W.nsIn K mainGlobals "must_be_kind" = some (some (.ref f6))) (l6 : K.lookup f6 = some ⟨oc6, od6, .func (PySem.W.fnOf "must_be_kind" "must_be_kind" (defArgs s_must_be_kind) (defBody s_must_be_kind) (defScope s_must_be_kind) .none kV6 dc6 pm6 an6 cd6 ct6), sl6⟩) (c6 : PySem.W.codeIn K cd6 "must_be_kind" = true) (k6 : PySem.W.keepIn K (.ref f6) = true)
    (a7 : PySem.W.nsIn K mainGlobals "places_of" = some (some (.ref f7))) (l7 : K.lookup f7 = some ⟨oc7, od7, .func (PySem.W.fnOf "places_of" "places_of" (defArgs s_places_of) (defBody s_places_of) (defScope s_places_of) .none kV7 dc7 pm7 an7 cd7 ct7), sl7⟩) (c7 : PySem.W.codeIn K cd7 "places_of" = true) (k7 : PySem.W.keepIn K (.ref f7) = true)
    (a8 : PySem.W.nsIn K mainGlobals "is_way" = some (some (.ref f8))) (l8 : K.lookup f8 = some ⟨oc8, od8, .func (PySem.W.fnOf "is_way" "is_way" (defArgs s_is_way) (defBody s_is_way) (defScope s_is_way) .none kV8 dc8 pm8 an8 cd8 ct8), sl8⟩) (c8 : PySem.W.codeIn K cd8 "is_way" = true) (k8 : PySem.W.keepIn K (.ref f8) = true)
    (a9 : PySem.W.nsIn K mainGlobals "ties_on" = some (some (.ref f9))) (l9 : K.lookup f9 = some ⟨oc9, od9, .func (PySem.W.fnOf "ties_on" "ties_on" (defArgs s_ties_on) (defBody s_ties_on) (defScope s_ties_on) .none kV9 dc9 pm9 an9 cd9 ct9), sl9⟩) (c9 : PySem.W.codeIn K cd9 "ties_on" = true) (k9 : PySem.W.keepIn K (.ref f9) = true)
    (a10 : PySem.W.nsIn K mainGlobals "must_be_ways" = some (some (.ref f10))) (l10 : K.lookup f10 = some ⟨oc10, od10, .func (PySem.W.fnOf "must_be_ways" "must_be_ways" (defArgs s_must_be_ways) (defBody s_must_be_ways) (defScope s_must_be_ways) .none kV10 dc10 pm10 an10 cd10 ct10), sl10⟩) (c10 : PySem.W.codeIn K cd10 "must_be_ways" = true) (k10 : PySem.W.keepIn K (.ref f10) = true)
    (a11 : PySem.W.nsIn K mainGlobals "first_clash" = some (some (.ref f11))) (l11 : K.lookup f11 = some ⟨oc11, od11, .func (PySem.W.fnOf "first_clash" "first_clash" (defArgs s_first_clash) (defBody s_first_clash) (defScope s_first_clash) .none kV11 dc11 pm11 an11 cd11 ct11), sl11⟩) (c11 : PySem.W.codeIn K cd11 "first_clash" = true) (k11 : PySem.W.keepIn K (.ref f11) = true)
    (a12 : PySem.W.nsIn K mainGlobals "hues_of" = some (some (.ref f12))) (l12 : K.lookup f12 = some ⟨oc12, od12, .func (PySem.W.fnOf "hues_of" "hues_of" (defArgs s_hues_of) (defBody s_hues_of) (defScope s_hues_of) .none kV12 dc12 pm12 an12 cd12 ct12), sl12⟩) (c12 : PySem.W.codeIn K cd12 "hues_of" = true) (k12 : PySem.W.keepIn K (.ref f12) = true)
    (a13 : PySem.W.nsIn K mainGlobals "meet" = some (some (.ref f13))) (l13 : K.lookup f13 = some ⟨oc13, od13, .func (PySem.W.fnOf "meet" "meet" (defArgs s_meet) (defBody s_meet) (defScope s_meet) .none kV13 dc13 pm13 an13 cd13 ct13), sl13⟩) (c13 : PySem.W.codeIn K cd13 "meet" = true) (k13 : PySem.W.keepIn K (.ref f13) = true)
    (a14 : PySem.W.nsIn K mainGlobals "line_hues" = some (some (.ref f14))) (l14 : K.lookup f14 = some ⟨oc14, od14, .func (PySem.W.fnOf "line_hues" "line_hues" (defArgs s_line_hues) (defBody s_line_hues) (defScope s_line_hues) .none kV14 dc14 pm14 an14 cd14 ct14), sl14⟩) (c14 : PySem.W.codeIn K cd14 "line_hues" = true) (k14 : PySem.W.keepIn K (.ref f14) = true)
    (a15 : PySem.W.nsIn K mainGlobals "ties_at" = some (some (.ref f15))) (l15 : K.lookup f15 = some ⟨oc15, od15, .func (PySem.W.fnOf "ties_at" "ties_at" (defArgs s_ties_at) (defBody s_ties_at) (defScope s_ties_at) .none kV15 dc15 pm15 an15 cd15 ct15), sl15⟩) (c15 : PySem.W.codeIn K cd15 "ties_at" = true) (k15 : PySem.W.keepIn K (.ref f15) = true)
    (a16 : PySem.W.nsIn K mainGlobals "crossing_of" = some (some (.ref f16))) (l16 : K.lookup f16 = some ⟨oc16, od16, .func (PySem.W.fnOf "crossing_of" "crossing_of" (defArgs s_crossing_of) (defBody s_crossing_of) (defScope s_crossing_of) .none kV16 dc16 pm16 an16 cd16 ct16), sl16⟩) (c16 : PySem.W.codeIn K cd16 "crossing_of" = true) (k16 : PySem.W.keepIn K (.ref f16) = true)
    (a17 : PySem.W.nsIn K mainGlobals "crossing_at" = some (some (.ref f17))) (l17 : K.lookup f17 = some ⟨oc17, od17, .func (PySem.W.fnOf "crossing_at" "crossing_at" (defArgs s_crossing_at) (defBody s_crossing_at) (defScope s_crossing_at) .none kV17 dc17 pm17 an17 cd17 ct17), sl17⟩) (c17 : PySem.W.codeIn K cd17 "crossing_at" = true) (k17 : PySem.W.keepIn K (.ref f17) = true)
    (a18 : PySem.W.nsIn K mainGlobals "are_right" = some (some (.ref f18))) (l18 : K.lookup f18 = some ⟨oc18, od18, .func (PySem.W.fnOf "are_right" "are_right" (defArgs s_are_right) (defBody s_are_right) (defScope s_are_right) .none kV18 dc18 pm18 an18 cd18 ct18), sl18⟩) (c18 : PySem.W.codeIn K cd18 "are_right" = true) (k18 : PySem.W.keepIn K (.ref f18) = true)
    (a19 : PySem.W.nsIn K mainGlobals "join_hues" = some (some (.ref f19))) (l19 : K.lookup f19 = some ⟨oc19, od19, .func (PySem.W.fnOf "join_hues" "join_hues" (defArgs s_join_hues) (defBody s_join_hues) (defScope s_join_hues) .none kV19 dc19 pm19 an19 cd19 ct19), sl19⟩) (c19 : PySem.W.codeIn K cd19 "join_hues" = true) (k19 : PySem.W.keepIn K (.ref f19) = true)
    (a20 : PySem.W.nsIn K mainGlobals "_law_mix" = some (some (.ref f20))) (l20 : K.lookup f20 = some ⟨oc20, od20, .func (PySem.W.fnOf "_law_mix" "_law_mix" (defArgs s_law_mix) (defBody s_law_mix) (defScope s_law_mix) .none kV20 dc20 pm20 an20 cd20 ct20), sl20⟩) (c20 : PySem.W.codeIn K cd20 "_law_mix" = true) (k20 : PySem.W.keepIn K (.ref f20) = true)
    (a21 : PySem.W.nsIn K mainGlobals "_law_cell_at" = some (some (.ref f21))) (l21 : K.lookup f21 = some ⟨oc21, od21, .func (PySem.W.fnOf "_law_cell_at" "_law_cell_at" (defArgs s_law_cell_at) (defBody s_law_cell_at) (defScope s_law_cell_at) .none kV21 dc21 pm21 an21 cd21 ct21), sl21⟩) (c21 : PySem.W.codeIn K cd21 "_law_cell_at" = true) (k21 : PySem.W.keepIn K (.ref f21) = true)
    (a22 : PySem.W.nsIn K mainGlobals "_law_left" = some (some (.ref f22))) (l22 : K.lookup f22 = some ⟨oc22, od22, .func (PySem.W.fnOf "_law_left" "_law_left" (defArgs s_law_left) (defBody s_law_left) (defScope s_law_left) .none kV22 dc22 pm22 an22 cd22 ct22), sl22⟩) (c22 : PySem.W.codeIn K cd22 "_law_left" = true) (k22 : PySem.W.keepIn K (.ref f22) = true)
    (a23 : PySem.W.nsIn K mainGlobals "_law_draw" = some (some (.ref f23))) (l23 : K.lookup f23 = some ⟨oc23, od23, .func (PySem.W.fnOf "_law_draw" "_law_draw" (defArgs s_law_draw) (defBody s_law_draw) (defScope s_law_draw) .none kV23 dc23 pm23 an23 cd23 ct23), sl23⟩) (c23 : PySem.W.codeIn K cd23 "_law_draw" = true) (k23 : PySem.W.keepIn K (.ref f23) = true)
    (a24 : PySem.W.nsIn K mainGlobals "_law_marks" = some (some (.ref f24))) (l24 : K.lookup f24 = some ⟨oc24, od24, .func (PySem.W.fnOf "_law_marks" "_law_marks" (defArgs s_law_marks) (defBody s_law_marks) (defScope s_law_marks) .none kV24 dc24 pm24 an24 cd24 ct24), sl24⟩) (c24 : PySem.W.codeIn K cd24 "_law_marks" = true) (k24 : PySem.W.keepIn K (.ref f24) = true)
    (a25 : PySem.W.nsIn K mainGlobals "_law_asked" = some (some (.ref f25))) (l25 : K.lookup f25 = some ⟨oc25, od25, .func (PySem.W.fnOf "_law_asked" "_law_asked" (defArgs s_law_asked) (defBody s_law_asked) (defScope s_law_asked) .none kV25 dc25 pm25 an25 cd25 ct25), sl25⟩) (c25 : PySem.W.codeIn K cd25 "_law_asked" = true) (k25 : PySem.W.keepIn K (.ref f25) = true)
    (a26 : PySem.W.nsIn K mainGlobals "_law_refused" = some (some (.ref f26))) (l26 : K.lookup f26 = some ⟨oc26, od26, .func (PySem.W.fnOf "_law_refused" "_law_refused" (defArgs s_law_refused) (defBody s_law_refused) (defScope s_law_refused) .none kV26 dc26 pm26 an26 cd26 ct26), sl26⟩) (c26 : PySem.W.codeIn K cd26 "_law_refused" = true) (k26 : PySem.W.keepIn K (.ref f26) = true)
    (a27 : PySem.W.nsIn K mainGlobals "law" = some (some (.ref f27))) (l27 : K.lookup f27 = some ⟨oc27, od27, .func (PySem.W.fnOf "law" "law" (defArgs s_law) (defBody s_law) (defScope s_law) .none kV27 dc27 pm27 an27 cd27 ct27), sl27⟩) (c27 : PySem.W.codeIn K cd27 "law" = true) (k27 : PySem.W.keepIn K (.ref f27) = true)
    {cm28 : Addr} (a28 : PySem.W.nsIn K mainGlobals "Giver" = some (some (.ref cm28))) (m28 : PySem.W.makesIn K cm28 = true) (i28 : PySem.W.findIn K (.ref cm28) "__init__" = some (some (.ref f28))) (n28 : PySem.W.isFn K (.ref f28) = true) (p28 : PySem.W.keepIn K (.ref cm28) = true) (l28 : K.lookup f28 = some ⟨oc28, od28, .func (PySem.W.fnOf "__init__" "Giver.__init__" (defArgs s_Giver_init) (defBody s_Giver_init) (defScope s_Giver_init) .none kV28 dc28 pm28 an28 cd28 ct28), sl28⟩) (c28 : PySem.W.codeIn K cd28 "Giver.__init__" = true) (k28 : PySem.W.keepIn K (.ref f28) = true)
    (pg28 : PySem.W.plainGet K cm28 Str.empty = true) (hd28 : PySem.W.hasDictIn K cm28 = true) (po28 : PySem.W.plainOver K cm28 = true) (sb28 : PySem.W.findIn K (.ref cm28) "__setattr__" = some (some (.builtin "object.__setattr__")))
    (nn28_0 : PySem.W.findIn K (.ref cm28) "net" = some none)
    (nn28_1 : PySem.W.findIn K (.ref cm28) "come" = some none)
    (nn28_2 : PySem.W.findIn K (.ref cm28) "lain" = some none)
    (nn28_3 : PySem.W.findIn K (.ref cm28) "given" = some none)
    (nn28_4 : PySem.W.findIn K (.ref cm28) "level" = some none)
    (nn28_5 : PySem.W.findIn K (.ref cm28) "own" = some none)
    (nn28_6 : PySem.W.findIn K (.ref cm28) "upto" = some none)
    (i29 : PySem.W.findIn K (.ref cm28) "level_for" = some (some (.ref f29))) (n29 : PySem.W.isFn K (.ref f29) = true) (l29 : K.lookup f29 = some ⟨oc29, od29, .func (PySem.W.fnOf "level_for" "Giver.level_for" (defArgs s_Giver_level_for) (defBody s_Giver_level_for) (defScope s_Giver_level_for) .none kV29 dc29 pm29 an29 cd29 ct29), sl29⟩) (c29 : PySem.W.codeIn K cd29 "Giver.level_for" = true) (k29 : PySem.W.keepIn K (.ref f29) = true)
    (i30 : PySem.W.findIn K (.ref cm28) "own_for" = some (some (.ref f30))) (n30 : PySem.W.isFn K (.ref f30) = true) (l30 : K.lookup f30 = some ⟨oc30, od30, .func (PySem.W.fnOf "own_for" "Giver.own_for" (defArgs s_Giver_own_for) (defBody s_Giver_own_for) (defScope s_Giver_own_for) .none kV30 dc30 pm30 an30 cd30 ct30), sl30⟩) (c30 : PySem.W.codeIn K cd30 "Giver.own_for" = true) (k30 : PySem.W.keepIn K (.ref f30) = true)
    (i31 : PySem.W.findIn K (.ref cm28) "counted_in" = some (some (.ref f31))) (n31 : PySem.W.isFn K (.ref f31) = true) (l31 : K.lookup f31 = some ⟨oc31, od31, .func (PySem.W.fnOf "counted_in" "Giver.counted_in" (defArgs s_Giver_counted_in) (defBody s_Giver_counted_in) (defScope s_Giver_counted_in) .none kV31 dc31 pm31 an31 cd31 ct31), sl31⟩) (c31 : PySem.W.codeIn K cd31 "Giver.counted_in" = true) (k31 : PySem.W.keepIn K (.ref f31) = true)
    (i32 : PySem.W.findIn K (.ref cm28) "put" = some (some (.ref f32))) (n32 : PySem.W.isFn K (.ref f32) = true) (l32 : K.lookup f32 = some ⟨oc32, od32, .func (PySem.W.fnOf "put" "Giver.put" (defArgs s_Giver_put) (defBody s_Giver_put) (defScope s_Giver_put) .none kV32 dc32 pm32 an32 cd32 ct32), sl32⟩) (c32 : PySem.W.codeIn K cd32 "Giver.put" = true) (k32 : PySem.W.keepIn K (.ref f32) = true)
    (e0 : PySem.W.nsIn K mainGlobals "MOST_TIES" = some (some (.int 60 tk0)))
    (e1 : PySem.W.nsIn K mainGlobals "MOST_PAIRS" = some (some (.int 60 tk1)))
    (e2 : PySem.W.nsIn K mainGlobals "MOST_PLACES" = some (some (.int 60 tk2)))
    (e3 : PySem.W.nsIn K mainGlobals "MOST_WAYS" = some (some (.int 40 tk3)))
    (z0 : PySem.W.nsIn K mainGlobals "ValueError" = some none)
    (z1 : PySem.W.nsIn K mainGlobals "bool" = some none)
    (z2 : PySem.W.nsIn K mainGlobals "int" = some none)
    (z3 : PySem.W.nsIn K mainGlobals "isinstance" = some none)
    (z4 : PySem.W.nsIn K mainGlobals "len" = some none)
    (z5 : PySem.W.nsIn K mainGlobals "list" = some none)
    (z6 : PySem.W.nsIn K mainGlobals "max" = some none)
    (z7 : PySem.W.nsIn K mainGlobals "min" = some none)
    (z8 : PySem.W.nsIn K mainGlobals "range" = some none)
    (z9 : PySem.W.nsIn K mainGlobals "sorted" = some none)
    {cc0 cc1 cc2 cc3 cc4 cc5 cc6 cc7 cc8 cc9 cc10 cc11 cc12 cc13 cc14 cc15 : Addr}
    (kk0 : PySem.W.nsIn K mainGlobals "TieError" = some (some (.ref cc0))) (xx0 : exkB K cc0 = true) (tt0 : PySem.W.typeIn K (.ref cc0) = some (.type "type"))
    (kk1 : PySem.W.nsIn K mainGlobals "NoNet" = some (some (.ref cc1))) (xx1 : exkB K cc1 = true) (tt1 : PySem.W.typeIn K (.ref cc1) = some (.type "type"))
    (kk2 : PySem.W.nsIn K mainGlobals "OtherNet" = some (some (.ref cc2))) (xx2 : exkB K cc2 = true) (tt2 : PySem.W.typeIn K (.ref cc2) = some (.type "type"))
    (kk3 : PySem.W.nsIn K mainGlobals "NoWay" = some (some (.ref cc3))) (xx3 : exkB K cc3 = true) (tt3 : PySem.W.typeIn K (.ref cc3) = some (.type "type"))
    (kk4 : PySem.W.nsIn K mainGlobals "TooMany" = some (some (.ref cc4))) (xx4 : exkB K cc4 = true) (tt4 : PySem.W.typeIn K (.ref cc4) = some (.type "type"))
    (kk5 : PySem.W.nsIn K mainGlobals "NoHues" = some (some (.ref cc5))) (xx5 : exkB K cc5 = true) (tt5 : PySem.W.typeIn K (.ref cc5) = some (.type "type"))
    (kk6 : PySem.W.nsIn K mainGlobals "NoCrossing" = some (some (.ref cc6))) (xx6 : exkB K cc6 = true) (tt6 : PySem.W.typeIn K (.ref cc6) = some (.type "type"))
    (kk7 : PySem.W.nsIn K mainGlobals "NoLot" = some (some (.ref cc7))) (xx7 : exkB K cc7 = true) (tt7 : PySem.W.typeIn K (.ref cc7) = some (.type "type"))
    (kk8 : PySem.W.nsIn K mainGlobals "NoPlace" = some (some (.ref cc8))) (xx8 : exkB K cc8 = true) (tt8 : PySem.W.typeIn K (.ref cc8) = some (.type "type"))
    (kk9 : PySem.W.nsIn K mainGlobals "NoNumber" = some (some (.ref cc9))) (xx9 : exkB K cc9 = true) (tt9 : PySem.W.typeIn K (.ref cc9) = some (.type "type"))
    (kk10 : PySem.W.nsIn K mainGlobals "NoTurning" = some (some (.ref cc10))) (xx10 : exkB K cc10 = true) (tt10 : PySem.W.typeIn K (.ref cc10) = some (.type "type"))
    (kk11 : PySem.W.nsIn K mainGlobals "NoTie" = some (some (.ref cc11))) (xx11 : exkB K cc11 = true) (tt11 : PySem.W.typeIn K (.ref cc11) = some (.type "type"))
    (kk12 : PySem.W.nsIn K mainGlobals "NoText" = some (some (.ref cc12))) (xx12 : exkB K cc12 = true) (tt12 : PySem.W.typeIn K (.ref cc12) = some (.type "type"))
    (kk13 : PySem.W.nsIn K mainGlobals "NoRow" = some (some (.ref cc13))) (xx13 : exkB K cc13 = true) (tt13 : PySem.W.typeIn K (.ref cc13) = some (.type "type"))
    (kk14 : PySem.W.nsIn K mainGlobals "NoName" = some (some (.ref cc14))) (xx14 : exkB K cc14 = true) (tt14 : PySem.W.typeIn K (.ref cc14) = some (.type "type"))
    (kk15 : PySem.W.nsIn K mainGlobals "NoForm" = some (some (.ref cc15))) (xx15 : exkB K cc15 = true) (tt15 : PySem.W.typeIn K (.ref cc15) = some (.type "type"))
    {nm3 q3 : Str} {N3 : Addr} {bs3 : List Value} {sn3 : List Str} {su3 : List Value} {ab3 : Bool} {co3 : Option Bool} {dd3 : Option Addr} {ma3 mb3 mc3 md3 me3 : Option Value} {fi3 : Addr} {odi3 ani3 : Option Addr} {sli3 : Array (Option Value)} {oci3 kVi3 dci3 pmi3 cdi3 cti3 : Value}
    (la3 : K.lookup cc3 = some (excClassObj nm3 q3 cc3 N3 bs3 [.ref cc0, .type "ValueError", .type "Exception", .type "BaseException", .type "object"] true sn3 su3 ab3 co3 dd3 ma3 mb3 mc3 md3 me3 "ValueError.__new__"))
    (sa3 : PySem.W.findIn K (.ref cc3) "__setattr__" = some (some (.builtin "object.__setattr__"))) (ee3 : PySem.W.subIn K (.ref cc3) (.type "BaseException") = some true) (ke3 : PySem.W.keepIn K (.ref cc3) = true)
    (ai3 : PySem.W.findIn K (.ref cc3) "__init__" = some (some (.ref fi3))) (ti3 : PySem.W.typeIn K (.ref fi3) = some (.type "function")) (li3 : K.lookup fi3 = some ⟨oci3, odi3, .func (PySem.W.fnOf "__init__" "NoWay.__init__" (defArgs s_init_NoWay) (defBody s_init_NoWay) (defScope s_init_NoWay) .none kVi3 dci3 pmi3 ani3 cdi3 cti3), sli3⟩) (ci3 : PySem.W.codeIn K cdi3 "NoWay.__init__" = true) (ki3 : PySem.W.keepIn K (.ref fi3) = true) (nf3 : PySem.W.findIn K (.ref cc3) "at" = some none)
    {nm5 q5 : Str} {N5 : Addr} {bs5 : List Value} {sn5 : List Str} {su5 : List Value} {ab5 : Bool} {co5 : Option Bool} {dd5 : Option Addr} {ma5 mb5 mc5 md5 me5 : Option Value} {fi5 : Addr} {odi5 ani5 : Option Addr} {sli5 : Array (Option Value)} {oci5 kVi5 dci5 pmi5 cdi5 cti5 : Value}
    (la5 : K.lookup cc5 = some (excClassObj nm5 q5 cc5 N5 bs5 [.ref cc0, .type "ValueError", .type "Exception", .type "BaseException", .type "object"] true sn5 su5 ab5 co5 dd5 ma5 mb5 mc5 md5 me5 "ValueError.__new__"))
    (sa5 : PySem.W.findIn K (.ref cc5) "__setattr__" = some (some (.builtin "object.__setattr__"))) (ee5 : PySem.W.subIn K (.ref cc5) (.type "BaseException") = some true) (ke5 : PySem.W.keepIn K (.ref cc5) = true)
    (ai5 : PySem.W.findIn K (.ref cc5) "__init__" = some (some (.ref fi5))) (ti5 : PySem.W.typeIn K (.ref fi5) = some (.type "function")) (li5 : K.lookup fi5 = some ⟨oci5, odi5, .func (PySem.W.fnOf "__init__" "NoHues.__init__" (defArgs s_init_NoHues) (defBody s_init_NoHues) (defScope s_init_NoHues) .none kVi5 dci5 pmi5 ani5 cdi5 cti5), sli5⟩) (ci5 : PySem.W.codeIn K cdi5 "NoHues.__init__" = true) (ki5 : PySem.W.keepIn K (.ref fi5) = true) (nf5 : PySem.W.findIn K (.ref cc5) "place" = some none)
    {nm12 q12 : Str} {N12 : Addr} {bs12 : List Value} {sn12 : List Str} {su12 : List Value} {ab12 : Bool} {co12 : Option Bool} {dd12 : Option Addr} {ma12 mb12 mc12 md12 me12 : Option Value} {fi12 : Addr} {odi12 ani12 : Option Addr} {sli12 : Array (Option Value)} {oci12 kVi12 dci12 pmi12 cdi12 cti12 : Value}
    (la12 : K.lookup cc12 = some (excClassObj nm12 q12 cc12 N12 bs12 [.ref cc0, .type "ValueError", .type "Exception", .type "BaseException", .type "object"] true sn12 su12 ab12 co12 dd12 ma12 mb12 mc12 md12 me12 "ValueError.__new__"))
    (sa12 : PySem.W.findIn K (.ref cc12) "__setattr__" = some (some (.builtin "object.__setattr__"))) (ee12 : PySem.W.subIn K (.ref cc12) (.type "BaseException") = some true) (ke12 : PySem.W.keepIn K (.ref cc12) = true)
    (ai12 : PySem.W.findIn K (.ref cc12) "__init__" = some (some (.ref fi12))) (ti12 : PySem.W.typeIn K (.ref fi12) = some (.type "function")) (li12 : K.lookup fi12 = some ⟨oci12, odi12, .func (PySem.W.fnOf "__init__" "NoText.__init__" (defArgs s_init_NoText) (defBody s_init_NoText) (defScope s_init_NoText) .none kVi12 dci12 pmi12 ani12 cdi12 cti12), sli12⟩) (ci12 : PySem.W.codeIn K cdi12 "NoText.__init__" = true) (ki12 : PySem.W.keepIn K (.ref fi12) = true) (nf12 : PySem.W.findIn K (.ref cc12) "row" = some none)
    (rr0 : PySem.W.readsIn K cc0 (.type "type") = true) (rr1 : PySem.W.specialIn K (.ref cc0) "__getattribute__" = some (some (.builtin "type.__getattribute__"))) (rr2 : PySem.W.findCls K (.ref cc0) (.type "type") "__init__" = some (.val (.builtin "ValueError.__init__")))
    (ex6 : PySem.W.excIn K cc6 [.type "ValueError", .type "Exception", .type "BaseException", .type "object"] "ValueError.__new__" = true) (pp6 : PySem.W.keepIn K (.ref cc6) = true)
    (uu6 : PySem.W.subIn K (.ref cc6) (.ref cc0) = some true)
    (qq6_0 : PySem.W.kitOne K (.ref cc6) (.ref cc6) = some true)
    (qq6_1 : PySem.W.kitOne K (.ref cc6) (.ref cc15) = some false)
    (qq6_2 : PySem.W.kitOne K (.ref cc6) (.ref cc5) = some false)
    (qq6_3 : PySem.W.kitOne K (.ref cc6) (.ref cc7) = some false)
    (qq6_4 : PySem.W.kitOne K (.ref cc6) (.ref cc14) = some false)
    (qq6_5 : PySem.W.kitOne K (.ref cc6) (.ref cc1) = some false)
    (qq6_6 : PySem.W.kitOne K (.ref cc6) (.ref cc9) = some false)
    (qq6_7 : PySem.W.kitOne K (.ref cc6) (.ref cc8) = some false)
    (qq6_8 : PySem.W.kitOne K (.ref cc6) (.ref cc13) = some false)
    (qq6_9 : PySem.W.kitOne K (.ref cc6) (.ref cc12) = some false)
    (qq6_10 : PySem.W.kitOne K (.ref cc6) (.ref cc11) = some false)
    (qq6_11 : PySem.W.kitOne K (.ref cc6) (.ref cc10) = some false)
    (qq6_12 : PySem.W.kitOne K (.ref cc6) (.ref cc3) = some false)
    (qq6_13 : PySem.W.kitOne K (.ref cc6) (.ref cc2) = some false)
    (qq6_14 : PySem.W.kitOne K (.ref cc6) (.ref cc0) = some true)
    (qq6_15 : PySem.W.kitOne K (.ref cc6) (.ref cc4) = some false)
    (qq6_16 : PySem.W.kitOne K (.ref cc6) (.type "ValueError") = some true)
    (uu5 : PySem.W.subIn K (.ref cc5) (.ref cc0) = some true)
    (qq5_0 : PySem.W.kitOne K (.ref cc5) (.ref cc6) = some false)
    (qq5_1 : PySem.W.kitOne K (.ref cc5) (.ref cc15) = some false)
    (qq5_2 : PySem.W.kitOne K (.ref cc5) (.ref cc5) = some true)
    (qq5_3 : PySem.W.kitOne K (.ref cc5) (.ref cc7) = some false)
    (qq5_4 : PySem.W.kitOne K (.ref cc5) (.ref cc14) = some false)
    (qq5_5 : PySem.W.kitOne K (.ref cc5) (.ref cc1) = some false)
    (qq5_6 : PySem.W.kitOne K (.ref cc5) (.ref cc9) = some false)
    (qq5_7 : PySem.W.kitOne K (.ref cc5) (.ref cc8) = some false)
    (qq5_8 : PySem.W.kitOne K (.ref cc5) (.ref cc13) = some false)
    (qq5_9 : PySem.W.kitOne K (.ref cc5) (.ref cc12) = some false)
    (qq5_10 : PySem.W.kitOne K (.ref cc5) (.ref cc11) = some false)
    (qq5_11 : PySem.W.kitOne K (.ref cc5) (.ref cc10) = some false)
    (qq5_12 : PySem.W.kitOne K (.ref cc5) (.ref cc3) = some false)
    (qq5_13 : PySem.W.kitOne K (.ref cc5) (.ref cc2) = some false)
    (qq5_14 : PySem.W.kitOne K (.ref cc5) (.ref cc0) = some true)
    (qq5_15 : PySem.W.kitOne K (.ref cc5) (.ref cc4) = some false)
    (qq5_16 : PySem.W.kitOne K (.ref cc5) (.type "ValueError") = some true)
    (ex7 : PySem.W.excIn K cc7 [.type "ValueError", .type "Exception", .type "BaseException", .type "object"] "ValueError.__new__" = true) (pp7 : PySem.W.keepIn K (.ref cc7) = true)
    (uu7 : PySem.W.subIn K (.ref cc7) (.ref cc0) = some true)
    (qq7_0 : PySem.W.kitOne K (.ref cc7) (.ref cc6) = some false)
    (qq7_1 : PySem.W.kitOne K (.ref cc7) (.ref cc15) = some false)
    (qq7_2 : PySem.W.kitOne K (.ref cc7) (.ref cc5) = some false)
    (qq7_3 : PySem.W.kitOne K (.ref cc7) (.ref cc7) = some true)
    (qq7_4 : PySem.W.kitOne K (.ref cc7) (.ref cc14) = some false)
    (qq7_5 : PySem.W.kitOne K (.ref cc7) (.ref cc1) = some false)
    (qq7_6 : PySem.W.kitOne K (.ref cc7) (.ref cc9) = some false)
    (qq7_7 : PySem.W.kitOne K (.ref cc7) (.ref cc8) = some false)
    (qq7_8 : PySem.W.kitOne K (.ref cc7) (.ref cc13) = some false)
    (qq7_9 : PySem.W.kitOne K (.ref cc7) (.ref cc12) = some false)
    (qq7_10 : PySem.W.kitOne K (.ref cc7) (.ref cc11) = some false)
    (qq7_11 : PySem.W.kitOne K (.ref cc7) (.ref cc10) = some false)
    (qq7_12 : PySem.W.kitOne K (.ref cc7) (.ref cc3) = some false)
    (qq7_13 : PySem.W.kitOne K (.ref cc7) (.ref cc2) = some false)
    (qq7_14 : PySem.W.kitOne K (.ref cc7) (.ref cc0) = some true)
    (qq7_15 : PySem.W.kitOne K (.ref cc7) (.ref cc4) = some false)
    (qq7_16 : PySem.W.kitOne K (.ref cc7) (.type "ValueError") = some true)
    (ex1 : PySem.W.excIn K cc1 [.type "ValueError", .type "Exception", .type "BaseException", .type "object"] "ValueError.__new__" = true) (pp1 : PySem.W.keepIn K (.ref cc1) = true)
    (uu1 : PySem.W.subIn K (.ref cc1) (.ref cc0) = some true)
    (qq1_0 : PySem.W.kitOne K (.ref cc1) (.ref cc6) = some false)
    (qq1_1 : PySem.W.kitOne K (.ref cc1) (.ref cc15) = some false)
    (qq1_2 : PySem.W.kitOne K (.ref cc1) (.ref cc5) = some false)
    (qq1_3 : PySem.W.kitOne K (.ref cc1) (.ref cc7) = some false)
    (qq1_4 : PySem.W.kitOne K (.ref cc1) (.ref cc14) = some false)
    (qq1_5 : PySem.W.kitOne K (.ref cc1) (.ref cc1) = some true)
    (qq1_6 : PySem.W.kitOne K (.ref cc1) (.ref cc9) = some false)
    (qq1_7 : PySem.W.kitOne K (.ref cc1) (.ref cc8) = some false)
    (qq1_8 : PySem.W.kitOne K (.ref cc1) (.ref cc13) = some false)
    (qq1_9 : PySem.W.kitOne K (.ref cc1) (.ref cc12) = some false)
    (qq1_10 : PySem.W.kitOne K (.ref cc1) (.ref cc11) = some false)
    (qq1_11 : PySem.W.kitOne K (.ref cc1) (.ref cc10) = some false)
    (qq1_12 : PySem.W.kitOne K (.ref cc1) (.ref cc3) = some false)
    (qq1_13 : PySem.W.kitOne K (.ref cc1) (.ref cc2) = some false)
    (qq1_14 : PySem.W.kitOne K (.ref cc1) (.ref cc0) = some true)
    (qq1_15 : PySem.W.kitOne K (.ref cc1) (.ref cc4) = some false)
    (qq1_16 : PySem.W.kitOne K (.ref cc1) (.type "ValueError") = some true)
    (ex8 : PySem.W.excIn K cc8 [.type "ValueError", .type "Exception", .type "BaseException", .type "object"] "ValueError.__new__" = true) (pp8 : PySem.W.keepIn K (.ref cc8) = true)
    (uu8 : PySem.W.subIn K (.ref cc8) (.ref cc0) = some true)
    (qq8_0 : PySem.W.kitOne K (.ref cc8) (.ref cc6) = some false)
    (qq8_1 : PySem.W.kitOne K (.ref cc8) (.ref cc15) = some false)
    (qq8_2 : PySem.W.kitOne K (.ref cc8) (.ref cc5) = some false)
    (qq8_3 : PySem.W.kitOne K (.ref cc8) (.ref cc7) = some false)
    (qq8_4 : PySem.W.kitOne K (.ref cc8) (.ref cc14) = some false)
    (qq8_5 : PySem.W.kitOne K (.ref cc8) (.ref cc1) = some false)
    (qq8_6 : PySem.W.kitOne K (.ref cc8) (.ref cc9) = some false)
    (qq8_7 : PySem.W.kitOne K (.ref cc8) (.ref cc8) = some true)
    (qq8_8 : PySem.W.kitOne K (.ref cc8) (.ref cc13) = some false)
    (qq8_9 : PySem.W.kitOne K (.ref cc8) (.ref cc12) = some false)
    (qq8_10 : PySem.W.kitOne K (.ref cc8) (.ref cc11) = some false)
    (qq8_11 : PySem.W.kitOne K (.ref cc8) (.ref cc10) = some false)
    (qq8_12 : PySem.W.kitOne K (.ref cc8) (.ref cc3) = some false)
    (qq8_13 : PySem.W.kitOne K (.ref cc8) (.ref cc2) = some false)
    (qq8_14 : PySem.W.kitOne K (.ref cc8) (.ref cc0) = some true)
    (qq8_15 : PySem.W.kitOne K (.ref cc8) (.ref cc4) = some false)
    (qq8_16 : PySem.W.kitOne K (.ref cc8) (.type "ValueError") = some true)
    (uu12 : PySem.W.subIn K (.ref cc12) (.ref cc0) = some true)
    (qq12_0 : PySem.W.kitOne K (.ref cc12) (.ref cc6) = some false)
    (qq12_1 : PySem.W.kitOne K (.ref cc12) (.ref cc15) = some false)
    (qq12_2 : PySem.W.kitOne K (.ref cc12) (.ref cc5) = some false)
    (qq12_3 : PySem.W.kitOne K (.ref cc12) (.ref cc7) = some false)
    (qq12_4 : PySem.W.kitOne K (.ref cc12) (.ref cc14) = some false)
    (qq12_5 : PySem.W.kitOne K (.ref cc12) (.ref cc1) = some false)
    (qq12_6 : PySem.W.kitOne K (.ref cc12) (.ref cc9) = some false)
    (qq12_7 : PySem.W.kitOne K (.ref cc12) (.ref cc8) = some false)
    (qq12_8 : PySem.W.kitOne K (.ref cc12) (.ref cc13) = some false)
    (qq12_9 : PySem.W.kitOne K (.ref cc12) (.ref cc12) = some true)
    (qq12_10 : PySem.W.kitOne K (.ref cc12) (.ref cc11) = some false)
    (qq12_11 : PySem.W.kitOne K (.ref cc12) (.ref cc10) = some false)
    (qq12_12 : PySem.W.kitOne K (.ref cc12) (.ref cc3) = some false)
    (qq12_13 : PySem.W.kitOne K (.ref cc12) (.ref cc2) = some false)
    (qq12_14 : PySem.W.kitOne K (.ref cc12) (.ref cc0) = some true)
    (qq12_15 : PySem.W.kitOne K (.ref cc12) (.ref cc4) = some false)
    (qq12_16 : PySem.W.kitOne K (.ref cc12) (.type "ValueError") = some true)
    (uu3 : PySem.W.subIn K (.ref cc3) (.ref cc0) = some true)
    (qq3_0 : PySem.W.kitOne K (.ref cc3) (.ref cc6) = some false)
    (qq3_1 : PySem.W.kitOne K (.ref cc3) (.ref cc15) = some false)
    (qq3_2 : PySem.W.kitOne K (.ref cc3) (.ref cc5) = some false)
    (qq3_3 : PySem.W.kitOne K (.ref cc3) (.ref cc7) = some false)
    (qq3_4 : PySem.W.kitOne K (.ref cc3) (.ref cc14) = some false)
    (qq3_5 : PySem.W.kitOne K (.ref cc3) (.ref cc1) = some false)
    (qq3_6 : PySem.W.kitOne K (.ref cc3) (.ref cc9) = some false)
    (qq3_7 : PySem.W.kitOne K (.ref cc3) (.ref cc8) = some false)
    (qq3_8 : PySem.W.kitOne K (.ref cc3) (.ref cc13) = some false)
    (qq3_9 : PySem.W.kitOne K (.ref cc3) (.ref cc12) = some false)
    (qq3_10 : PySem.W.kitOne K (.ref cc3) (.ref cc11) = some false)
    (qq3_11 : PySem.W.kitOne K (.ref cc3) (.ref cc10) = some false)
    (qq3_12 : PySem.W.kitOne K (.ref cc3) (.ref cc3) = some true)
    (qq3_13 : PySem.W.kitOne K (.ref cc3) (.ref cc2) = some false)
    (qq3_14 : PySem.W.kitOne K (.ref cc3) (.ref cc0) = some true)
    (qq3_15 : PySem.W.kitOne K (.ref cc3) (.ref cc4) = some false)
    (qq3_16 : PySem.W.kitOne K (.ref cc3) (.type "ValueError") = some true)
    (ex2 : PySem.W.excIn K cc2 [.type "ValueError", .type "Exception", .type "BaseException", .type "object"] "ValueError.__new__" = true) (pp2 : PySem.W.keepIn K (.ref cc2) = true)
    (uu2 : PySem.W.subIn K (.ref cc2) (.ref cc0) = some true)
    (qq2_0 : PySem.W.kitOne K (.ref cc2) (.ref cc6) = some false)
    (qq2_1 : PySem.W.kitOne K (.ref cc2) (.ref cc15) = some false)
    (qq2_2 : PySem.W.kitOne K (.ref cc2) (.ref cc5) = some false)
    (qq2_3 : PySem.W.kitOne K (.ref cc2) (.ref cc7) = some false)
    (qq2_4 : PySem.W.kitOne K (.ref cc2) (.ref cc14) = some false)
    (qq2_5 : PySem.W.kitOne K (.ref cc2) (.ref cc1) = some false)
    (qq2_6 : PySem.W.kitOne K (.ref cc2) (.ref cc9) = some false)
    (qq2_7 : PySem.W.kitOne K (.ref cc2) (.ref cc8) = some false)
    (qq2_8 : PySem.W.kitOne K (.ref cc2) (.ref cc13) = some false)
    (qq2_9 : PySem.W.kitOne K (.ref cc2) (.ref cc12) = some false)
    (qq2_10 : PySem.W.kitOne K (.ref cc2) (.ref cc11) = some false)
    (qq2_11 : PySem.W.kitOne K (.ref cc2) (.ref cc10) = some false)
    (qq2_12 : PySem.W.kitOne K (.ref cc2) (.ref cc3) = some false)
    (qq2_13 : PySem.W.kitOne K (.ref cc2) (.ref cc2) = some true)
    (qq2_14 : PySem.W.kitOne K (.ref cc2) (.ref cc0) = some true)
    (qq2_15 : PySem.W.kitOne K (.ref cc2) (.ref cc4) = some false)
    (qq2_16 : PySem.W.kitOne K (.ref cc2) (.type "ValueError") = some true)
    (ex4 : PySem.W.excIn K cc4 [.type "ValueError", .type "Exception", .type "BaseException", .type "object"] "ValueError.__new__" = true) (pp4 : PySem.W.keepIn K (.ref cc4) = true)
    (uu4 : PySem.W.subIn K (.ref cc4) (.ref cc0) = some true)
    (qq4_0 : PySem.W.kitOne K (.ref cc4) (.ref cc6) = some false)
    (qq4_1 : PySem.W.kitOne K (.ref cc4) (.ref cc15) = some false)
    (qq4_2 : PySem.W.kitOne K (.ref cc4) (.ref cc5) = some false)
    (qq4_3 : PySem.W.kitOne K (.ref cc4) (.ref cc7) = some false)
    (qq4_4 : PySem.W.kitOne K (.ref cc4) (.ref cc14) = some false)
    (qq4_5 : PySem.W.kitOne K (.ref cc4) (.ref cc1) = some false)
    (qq4_6 : PySem.W.kitOne K (.ref cc4) (.ref cc9) = some false)
    (qq4_7 : PySem.W.kitOne K (.ref cc4) (.ref cc8) = some false)
    (qq4_8 : PySem.W.kitOne K (.ref cc4) (.ref cc13) = some false)
    (qq4_9 : PySem.W.kitOne K (.ref cc4) (.ref cc12) = some false)
    (qq4_10 : PySem.W.kitOne K (.ref cc4) (.ref cc11) = some false)
    (qq4_11 : PySem.W.kitOne K (.ref cc4) (.ref cc10) = some false)
    (qq4_12 : PySem.W.kitOne K (.ref cc4) (.ref cc3) = some false)
    (qq4_13 : PySem.W.kitOne K (.ref cc4) (.ref cc2) = some false)
    (qq4_14 : PySem.W.kitOne K (.ref cc4) (.ref cc0) = some true)
    (qq4_15 : PySem.W.kitOne K (.ref cc4) (.ref cc4) = some true)
    (qq4_16 : PySem.W.kitOne K (.ref cc4) (.type "ValueError") = some true)
    : ∃ fd : FuncData, (∀ (s : Shared) (v : Value), BindsTo s fd ⟨[v], []⟩ [("_law_script", v)]) ∧ ∀ base : Heap, K.In base → base.Ns mainGlobals mg → FnOk l.prog w K mg base CX0 9 fa fd ["_law_script"] (sp_law K) := by
  have e := hfa.symm.trans (PySem.W.mg_of X G a27)
  cases e
  have F0 := fun_mk (st := s_must_be_crossing) l0 c0 k0
  have b0 := F0.binds (ps := ["crossing"]) fun _ _ _ _ _ _ us hl => match us, hl with | [_], _ => rfl
  have F1 := fun_mk (st := s_cross_hues) l1 c1 k1
  have b1 := F1.binds (ps := ["crossing"]) fun _ _ _ _ _ _ us hl => match us, hl with | [_], _ => rfl
  have F2 := fun_mk (st := s_is_lot) l2 c2 k2
  have b2 := F2.binds (ps := ["crossing", "lot"]) fun _ _ _ _ _ _ us hl => match us, hl with | [_, _], _ => rfl
  have F3 := fun_mk (st := s_lot_bound) l3 c3 k3
  have b3 := F3.binds (ps := ["crossing", "lot"]) fun _ _ _ _ _ _ us hl => match us, hl with | [_, _], _ => rfl
  have F4 := fun_mk (st := s_is_tree) l4 c4 k4
  have b4 := F4.binds (ps := ["parents"]) fun _ _ _ _ _ _ us hl => match us, hl with | [_], _ => rfl
  have F5 := fun_mk (st := s_look_net) l5 c5 k5
  have b5 := F5.binds (ps := ["net"]) fun _ _ _ _ _ _ us hl => match us, hl with | [_], _ => rfl
  have F6 := fun_mk (st := s_must_be_kind) l6 c6 k6
  have b6 := F6.binds (ps := ["net", "kind"]) fun _ _ _ _ _ _ us hl => match us, hl with | [_, _], _ => rfl
  have F7 := fun_mk (st := s_places_of) l7 c7 k7
  have b7 := F7.binds (ps := ["net"]) fun _ _ _ _ _ _ us hl => match us, hl with | [_], _ => rfl
  have F8 := fun_mk (st := s_is_way) l8 c8 k8
  have b8 := F8.binds (ps := ["net", "way"]) fun _ _ _ _ _ _ us hl => match us, hl with | [_, _], _ => rfl
  have F9 := fun_mk (st := s_ties_on) l9 c9 k9
  have b9 := F9.binds (ps := ["net", "way"]) fun _ _ _ _ _ _ us hl => match us, hl with | [_, _], _ => rfl
  have F10 := fun_mk (st := s_must_be_ways) l10 c10 k10
  have b10 := F10.binds (ps := ["net", "ways"]) fun _ _ _ _ _ _ us hl => match us, hl with | [_, _], _ => rfl
  have F11 := fun_mk (st := s_first_clash) l11 c11 k11
  have b11 := F11.binds (ps := ["lain", "hues"]) fun _ _ _ _ _ _ us hl => match us, hl with | [_, _], _ => rfl
  have F12 := fun_mk (st := s_hues_of) l12 c12 k12
  have b12 := F12.binds (ps := ["level"]) fun _ _ _ _ _ _ us hl => match us, hl with | [_], _ => rfl
  have F13 := fun_mk (st := s_meet) l13 c13 k13
  have b13 := F13.binds (ps := ["one", "other"]) fun _ _ _ _ _ _ us hl => match us, hl with | [_, _], _ => rfl
  have F14 := fun_mk (st := s_line_hues) l14 c14 k14
  have b14 := F14.binds (ps := ["net", "ways"]) fun _ _ _ _ _ _ us hl => match us, hl with | [_, _], _ => rfl
  have F15 := fun_mk (st := s_ties_at) l15 c15 k15
  have b15 := F15.binds (ps := ["net", "place"]) fun _ _ _ _ _ _ us hl => match us, hl with | [_, _], _ => rfl
  have F16 := fun_mk (st := s_crossing_of) l16 c16 k16
  have b16 := F16.binds (ps := ["net", "ways", "place"]) fun _ _ _ _ _ _ us hl => match us, hl with | [_, _, _], _ => rfl
  have F17 := fun_mk (st := s_crossing_at) l17 c17 k17
  have b17 := F17.binds (ps := ["net", "ways", "place"]) fun _ _ _ _ _ _ us hl => match us, hl with | [_, _, _], _ => rfl
  have F18 := fun_mk (st := s_are_right) l18 c18 k18
  have b18 := F18.binds (ps := ["crossing", "hues"]) fun _ _ _ _ _ _ us hl => match us, hl with | [_, _], _ => rfl
  have F19 := fun_mk (st := s_join_hues) l19 c19 k19
  have b19 := F19.binds (ps := ["net", "ways", "lists"]) fun _ _ _ _ _ _ us hl => match us, hl with | [_, _, _], _ => rfl
  have F20 := fun_mk (st := s_law_mix) l20 c20 k20
  have b20 := F20.binds (ps := ["_law_number", "_law_k"]) fun _ _ _ _ _ _ us hl => match us, hl with | [_, _], _ => rfl
  have F21 := fun_mk (st := s_law_cell_at) l21 c21 k21
  have b21 := F21.binds (ps := ["_law_script", "_law_k"]) fun _ _ _ _ _ _ us hl => match us, hl with | [_, _], _ => rfl
  have F22 := fun_mk (st := s_law_left) l22 c22 k22
  have b22 := F22.binds (ps := ["_law_script", "_law_k"]) fun _ _ _ _ _ _ us hl => match us, hl with | [_, _], _ => rfl
  have F23 := fun_mk (st := s_law_draw) l23 c23 k23
  have b23 := F23.binds (ps := ["_law_left_here", "_law_base"]) fun _ _ _ _ _ _ us hl => match us, hl with | [_, _], _ => rfl
  have F24 := fun_mk (st := s_law_marks) l24 c24 k24
  have b24 := F24.binds (ps := ["_law_caught"]) fun _ _ _ _ _ _ us hl => match us, hl with | [_], _ => rfl
  have F25 := fun_mk (st := s_law_asked) l25 c25 k25
  have b25 := F25.binds (ps := ["_law_which", "_law_size"]) fun _ _ _ _ _ _ us hl => match us, hl with | [_, _], _ => rfl
  have F26 := fun_mk (st := s_law_refused) l26 c26 k26
  have b26 := F26.binds (ps := ["_law_which", "_law_size"]) fun _ _ _ _ _ _ us hl => match us, hl with | [_, _], _ => rfl
  have F27 := fun_mk (st := s_law) l27 c27 k27
  have b27 := F27.binds (ps := ["_law_script"]) fun _ _ _ _ _ _ us hl => match us, hl with | [_], _ => rfl
  have F28 := fun_mk (st := s_Giver_init) l28 c28 k28
  have b28 := F28.binds (ps := ["self", "net"]) fun _ _ _ _ _ _ us hl => match us, hl with | [_, _], _ => rfl
  have F29 := fun_mk (st := s_Giver_level_for) l29 c29 k29
  have b29 := F29.binds (ps := ["self", "ties"]) fun _ _ _ _ _ _ us hl => match us, hl with | [_, _], _ => rfl
  have F30 := fun_mk (st := s_Giver_own_for) l30 c30 k30
  have b30 := F30.binds (ps := ["self", "ties", "i"]) fun _ _ _ _ _ _ us hl => match us, hl with | [_, _, _], _ => rfl
  have F31 := fun_mk (st := s_Giver_counted_in) l31 c31 k31
  have b31 := F31.binds (ps := ["self", "ties", "i"]) fun _ _ _ _ _ _ us hl => match us, hl with | [_, _, _], _ => rfl
  have F32 := fun_mk (st := s_Giver_put) l32 c32 k32
  have b32 := F32.binds (ps := ["self", "way"]) fun _ _ _ _ _ _ us hl => match us, hl with | [_, _], _ => rfl
  have Fi3 := fun_mk (st := s_init_NoWay) li3 ci3 ki3
  have bi3 := Fi3.binds (ps := ["self", "at"]) fun _ _ _ _ _ _ us hl => match us, hl with | [_, _], _ => rfl
  have Fi5 := fun_mk (st := s_init_NoHues) li5 ci5 ki5
  have bi5 := Fi5.binds (ps := ["self", "place"]) fun _ _ _ _ _ _ us hl => match us, hl with | [_, _], _ => rfl
  have Fi12 := fun_mk (st := s_init_NoText) li12 ci12 ki12
  have bi12 := Fi12.binds (ps := ["self", "row"]) fun _ _ _ _ _ _ us hl => match us, hl with | [_, _], _ => rfl
  have T : Txt K mg ⟨cc0, cc1, cc2, cc3, cc4, cc5, cc6, cc7, cc8, cc9, cc10, cc11, cc12, cc13, cc14, cc15, fi3, _, fi5, _, fi12, _, cm28, f0, _, f1, _, f2, _, f3, _, f4, _, f5, _, f6, _, f7, _, f8, _, f9, _, f10, _, f11, _, f12, _, f13, _, f14, _, f15, _, f16, _, f17, _, f18, _, f19, _, f20, _, f21, _, f22, _, f23, _, f24, _, f25, _, f26, _, fa, _, f28, _, f29, _, f30, _, f31, _, f32, _⟩ :=
    ⟨PySem.W.mg_of X G a0, F0, b0, PySem.W.mg_of X G a1, F1, b1, PySem.W.mg_of X G a2, F2, b2, PySem.W.mg_of X G a3, F3, b3, PySem.W.mg_of X G a4, F4, b4, PySem.W.mg_of X G a5, F5, b5, PySem.W.mg_of X G a6, F6, b6, PySem.W.mg_of X G a7, F7, b7, PySem.W.mg_of X G a8, F8, b8, PySem.W.mg_of X G a9, F9, b9, PySem.W.mg_of X G a10, F10, b10, PySem.W.mg_of X G a11, F11, b11, PySem.W.mg_of X G a12, F12, b12, PySem.W.mg_of X G a13, F13, b13, PySem.W.mg_of X G a14, F14, b14, PySem.W.mg_of X G a15, F15, b15, PySem.W.mg_of X G a16, F16, b16, PySem.W.mg_of X G a17, F17, b17, PySem.W.mg_of X G a18, F18, b18, PySem.W.mg_of X G a19, F19, b19, PySem.W.mg_of X G a20, F20, b20, PySem.W.mg_of X G a21, F21, b21, PySem.W.mg_of X G a22, F22, b22, PySem.W.mg_of X G a23, F23, b23, PySem.W.mg_of X G a24, F24, b24, PySem.W.mg_of X G a25, F25, b25, PySem.W.mg_of X G a26, F26, b26, PySem.W.mg_of X G a27, F27, b27, PySem.W.mg_of X G a28, ⟨m28, i28, n28, p28⟩, F28, ⟨pg28, hd28, po28, sb28⟩, nn28_0, nn28_1, nn28_2, nn28_3, nn28_4, nn28_5, nn28_6, b28, ⟨i29, n29, k29⟩, F29, b29, ⟨i30, n30, k30⟩, F30, b30, ⟨i31, n31, k31⟩, F31, b31, ⟨i32, n32, k32⟩, F32, b32, tok_mk (PySem.W.mg_of X G e0), tok_mk (PySem.W.mg_of X G e1), tok_mk (PySem.W.mg_of X G e2), tok_mk (PySem.W.mg_of X G e3), PySem.W.mg_none_of X G z0, PySem.W.mg_none_of X G z1, PySem.W.mg_none_of X G z2, PySem.W.mg_none_of X G z3, PySem.W.mg_none_of X G z4, PySem.W.mg_none_of X G z5, PySem.W.mg_none_of X G z6, PySem.W.mg_none_of X G z7, PySem.W.mg_none_of X G z8, PySem.W.mg_none_of X G z9, PySem.W.mg_of X G kk0, exkB_ok xx0, tt0, PySem.W.mg_of X G kk1, exkB_ok xx1, tt1, PySem.W.mg_of X G kk2, exkB_ok xx2, tt2, PySem.W.mg_of X G kk3, exkB_ok xx3, tt3, PySem.W.mg_of X G kk4, exkB_ok xx4, tt4, PySem.W.mg_of X G kk5, exkB_ok xx5, tt5, PySem.W.mg_of X G kk6, exkB_ok xx6, tt6, PySem.W.mg_of X G kk7, exkB_ok xx7, tt7, PySem.W.mg_of X G kk8, exkB_ok xx8, tt8, PySem.W.mg_of X G kk9, exkB_ok xx9, tt9, PySem.W.mg_of X G kk10, exkB_ok xx10, tt10, PySem.W.mg_of X G kk11, exkB_ok xx11, tt11, PySem.W.mg_of X G kk12, exkB_ok xx12, tt12, PySem.W.mg_of X G kk13, exkB_ok xx13, tt13, PySem.W.mg_of X G kk14, exkB_ok xx14, tt14, PySem.W.mg_of X G kk15, exkB_ok xx15, tt15, ⟨⟨nm3, q3, N3, bs3, _, sn3, su3, ab3, co3, dd3, ma3, mb3, mc3, md3, me3, la3, rfl⟩, sa3, ee3, tt3, ke3⟩, ai3, ti3, Fi3, bi3, nf3, ⟨⟨nm5, q5, N5, bs5, _, sn5, su5, ab5, co5, dd5, ma5, mb5, mc5, md5, me5, la5, rfl⟩, sa5, ee5, tt5, ke5⟩, ai5, ti5, Fi5, bi5, nf5, ⟨⟨nm12, q12, N12, bs12, _, sn12, su12, ab12, co12, dd12, ma12, mb12, mc12, md12, me12, la12, rfl⟩, sa12, ee12, tt12, ke12⟩, ai12, ti12, Fi12, bi12, nf12, ⟨PySem.W.mg_of X G kk0, rr0, rr1, rr2⟩, ex6, pp6, uu6, qq6_0, qq6_1, qq6_2, qq6_3, qq6_4, qq6_5, qq6_6, qq6_7, qq6_8, qq6_9, qq6_10, qq6_11, qq6_12, qq6_13, qq6_14, qq6_15, qq6_16, uu5, qq5_0, qq5_1, qq5_2, qq5_3, qq5_4, qq5_5, qq5_6, qq5_7, qq5_8, qq5_9, qq5_10, qq5_11, qq5_12, qq5_13, qq5_14, qq5_15, qq5_16, ex7, pp7, uu7, qq7_0, qq7_1, qq7_2, qq7_3, qq7_4, qq7_5, qq7_6, qq7_7, qq7_8, qq7_9, qq7_10, qq7_11, qq7_12, qq7_13, qq7_14, qq7_15, qq7_16, ex1, pp1, uu1, qq1_0, qq1_1, qq1_2, qq1_3, qq1_4, qq1_5, qq1_6, qq1_7, qq1_8, qq1_9, qq1_10, qq1_11, qq1_12, qq1_13, qq1_14, qq1_15, qq1_16, ex8, pp8, uu8, qq8_0, qq8_1, qq8_2, qq8_3, qq8_4, qq8_5, qq8_6, qq8_7, qq8_8, qq8_9, qq8_10, qq8_11, qq8_12, qq8_13, qq8_14, qq8_15, qq8_16, uu12, qq12_0, qq12_1, qq12_2, qq12_3, qq12_4, qq12_5, qq12_6, qq12_7, qq12_8, qq12_9, qq12_10, qq12_11, qq12_12, qq12_13, qq12_14, qq12_15, qq12_16, uu3, qq3_0, qq3_1, qq3_2, qq3_3, qq3_4, qq3_5, qq3_6, qq3_7, qq3_8, qq3_9, qq3_10, qq3_11, qq3_12, qq3_13, qq3_14, qq3_15, qq3_16, ex2, pp2, uu2, qq2_0, qq2_1, qq2_2, qq2_3, qq2_4, qq2_5, qq2_6, qq2_7, qq2_8, qq2_9, qq2_10, qq2_11, qq2_12, qq2_13, qq2_14, qq2_15, qq2_16, ex4, pp4, uu4, qq4_0, qq4_1, qq4_2, qq4_3, qq4_4, qq4_5, qq4_6, qq4_7, qq4_8, qq4_9, qq4_10, qq4_11, qq4_12, qq4_13, qq4_14, qq4_15, qq4_16⟩
  exact ⟨_, fun s v => .of_eq rfl, fun base _ _ => ok_law T⟩
end Pf
open PySem PySem.W PyProof.Rows
set_option maxHeartbeats 0 in
theorem PySem.Challenge.cw_tiehues_k04_refusals_made_holds : PySem.Challenge.rw_tiehues_k04_refusals_made.Holds := by
  w_on; o_law; k_head; (case hw => w_witness2)
  k_fill
  refine L2.walk_ofK (l := PySem.Challenge.rw_tiehues_k04_refusals_made) (n := 63) (k := 9) (x := "_law_script") (CX := L2.CX0) (sp := Pf.sp_law) rfl (by decide) rfl ⟨rfl, by decide, by decide⟩ (fun w h Y => PySem.W.km_in_of Y) ?F (fun _ _ a ns hl _ hS => ⟨a, ns, rfl, hS, hl, fun _ => rfl⟩) (fun _ _ _ _ h => h)
  case F =>
    intro w mg fa h KX G hmg
    refine' Pf.all_mk KX G hmg ?a0 ?l0 ?c0 ?k0 ?a1 ?l1 ?c1 ?k1 ?a2 ?l2 ?c2 ?k2 ?a3 ?l3 ?c3 ?k3 ?a4 ?l4 ?c4 ?k4 ?a5 ?l5 ?c5 ?k5 ?a6 ?l6 ?c6 ?k6 ?a7 ?l7 ?c7 ?k7 ?a8 ?l8 ?c8 ?k8 ?a9 ?l9 ?c9 ?k9 ?a10 ?l10 ?c10 ?k10 ?a11 ?l11 ?c11 ?k11 ?a12 ?l12 ?c12 ?k12 ?a13 ?l13 ?c13 ?k13 ?a14 ?l14 ?c14 ?k14 ?a15 ?l15 ?c15 ?k15 ?a16 ?l16 ?c16 ?k16 ?a17 ?l17 ?c17 ?k17 ?a18 ?l18 ?c18 ?k18 ?a19 ?l19 ?c19 ?k19 ?a20 ?l20 ?c20 ?k20 ?a21 ?l21 ?c21 ?k21 ?a22 ?l22 ?c22 ?k22 ?a23 ?l23 ?c23 ?k23 ?a24 ?l24 ?c24 ?k24 ?a25 ?l25 ?c25 ?k25 ?a26 ?l26 ?c26 ?k26 ?a27 ?l27 ?c27 ?k27 ?a28 ?m28 ?i28 ?n28 ?p28 ?l28 ?c28 ?k28 ?pg28 ?hd28 ?po28 ?sb28 ?nn28_0 ?nn28_1 ?nn28_2 ?nn28_3 ?nn28_4 ?nn28_5 ?nn28_6 ?i29 ?n29 ?l29 ?c29 ?k29 ?i30 ?n30 ?l30 ?c30 ?k30 ?i31 ?n31 ?l31 ?c31 ?k31 ?i32 ?n32 ?l32 ?c32 ?k32 ?e0 ?e1 ?e2 ?e3 ?z0 ?z1 ?z2 ?z3 ?z4 ?z5 ?z6 ?z7 ?z8 ?z9 ?kk0 ?xx0 ?tt0 ?kk1 ?xx1 ?tt1 ?kk2 ?xx2 ?tt2 ?kk3 ?xx3 ?tt3 ?kk4 ?xx4 ?tt4 ?kk5 ?xx5 ?tt5 ?kk6 ?xx6 ?tt6 ?kk7 ?xx7 ?tt7 ?kk8 ?xx8 ?tt8 ?kk9 ?xx9 ?tt9 ?kk10 ?xx10 ?tt10 ?kk11 ?xx11 ?tt11 ?kk12 ?xx12 ?tt12 ?kk13 ?xx13 ?tt13 ?kk14 ?xx14 ?tt14 ?kk15 ?xx15 ?tt15 ?la3 ?sa3 ?ee3 ?ke3 ?ai3 ?ti3 ?li3 ?ci3 ?ki3 ?nf3 ?la5 ?sa5 ?ee5 ?ke5 ?ai5 ?ti5 ?li5 ?ci5 ?ki5 ?nf5 ?la12 ?sa12 ?ee12 ?ke12 ?ai12 ?ti12 ?li12 ?ci12 ?ki12 ?nf12 ?rr0 ?rr1 ?rr2 ?ex6 ?pp6 ?uu6 ?qq6_0 ?qq6_1 ?qq6_2 ?qq6_3 ?qq6_4 ?qq6_5 ?qq6_6 ?qq6_7 ?qq6_8 ?qq6_9 ?qq6_10 ?qq6_11 ?qq6_12 ?qq6_13 ?qq6_14 ?qq6_15 ?qq6_16 ?uu5 ?qq5_0 ?qq5_1 ?qq5_2 ?qq5_3 ?qq5_4 ?qq5_5 ?qq5_6 ?qq5_7 ?qq5_8 ?qq5_9 ?qq5_10 ?qq5_11 ?qq5_12 ?qq5_13 ?qq5_14 ?qq5_15 ?qq5_16 ?ex7 ?pp7 ?uu7 ?qq7_0 ?qq7_1 ?qq7_2 ?qq7_3 ?qq7_4 ?qq7_5 ?qq7_6 ?qq7_7 ?qq7_8 ?qq7_9 ?qq7_10 ?qq7_11 ?qq7_12 ?qq7_13 ?qq7_14 ?qq7_15 ?qq7_16 ?ex1 ?pp1 ?uu1 ?qq1_0 ?qq1_1 ?qq1_2 ?qq1_3 ?qq1_4 ?qq1_5 ?qq1_6 ?qq1_7 ?qq1_8 ?qq1_9 ?qq1_10 ?qq1_11 ?qq1_12 ?qq1_13 ?qq1_14 ?qq1_15 ?qq1_16 ?ex8 ?pp8 ?uu8 ?qq8_0 ?qq8_1 ?qq8_2 ?qq8_3 ?qq8_4 ?qq8_5 ?qq8_6 ?qq8_7 ?qq8_8 ?qq8_9 ?qq8_10 ?qq8_11 ?qq8_12 ?qq8_13 ?qq8_14 ?qq8_15 ?qq8_16 ?uu12 ?qq12_0 ?qq12_1 ?qq12_2 ?qq12_3 ?qq12_4 ?qq12_5 ?qq12_6 ?qq12_7 ?qq12_8 ?qq12_9 ?qq12_10 ?qq12_11 ?qq12_12 ?qq12_13 ?qq12_14 ?qq12_15 ?qq12_16 ?uu3 ?qq3_0 ?qq3_1 ?qq3_2 ?qq3_3 ?qq3_4 ?qq3_5 ?qq3_6 ?qq3_7 ?qq3_8 ?qq3_9 ?qq3_10 ?qq3_11 ?qq3_12 ?qq3_13 ?qq3_14 ?qq3_15 ?qq3_16 ?ex2 ?pp2 ?uu2 ?qq2_0 ?qq2_1 ?qq2_2 ?qq2_3 ?qq2_4 ?qq2_5 ?qq2_6 ?qq2_7 ?qq2_8 ?qq2_9 ?qq2_10 ?qq2_11 ?qq2_12 ?qq2_13 ?qq2_14 ?qq2_15 ?qq2_16 ?ex4 ?pp4 ?uu4 ?qq4_0 ?qq4_1 ?qq4_2 ?qq4_3 ?qq4_4 ?qq4_5 ?qq4_6 ?qq4_7 ?qq4_8 ?qq4_9 ?qq4_10 ?qq4_11 ?qq4_12 ?qq4_13 ?qq4_14 ?qq4_15 ?qq4_16
    (case a0 => k_is); (case l0 => k_is); (case c0 => k_is); (case k0 => k_is); (case a1 => k_is); (case l1 => k_is); (case c1 => k_is); (case k1 => k_is); (case a2 => k_is); (case l2 => k_is); (case c2 => k_is); (case k2 => k_is); (case a3 => k_is); (case l3 => k_is); (case c3 => k_is); (case k3 => k_is); (case a4 => k_is); (case l4 => k_is); (case c4 => k_is); (case k4 => k_is); (case a5 => k_is); (case l5 => k_is); (case c5 => k_is); (case k5 => k_is); (case a6 => k_is); (case l6 => k_is); (case c6 => k_is); (case k6 => k_is); (case a7 => k_is); (case l7 => k_is); (case c7 => k_is); (case k7 => k_is); (case a8 => k_is); (case l8 => k_is); (case c8 => k_is); (case k8 => k_is); (case a9 => k_is); (case l9 => k_is); (case c9 => k_is); (case k9 => k_is); (case a10 => k_is); (case l10 => k_is); (case c10 => k_is); (case k10 => k_is); (case a11 => k_is); (case l11 => k_is); (case c11 => k_is); (case k11 => k_is); (case a12 => k_is); (case l12 => k_is); (case c12 => k_is); (case k12 => k_is); (case a13 => k_is); (case l13 => k_is); (case c13 => k_is); (case k13 => k_is); (case a14 => k_is); (case l14 => k_is); (case c14 => k_is); (case k14 => k_is); (case a15 => k_is); (case l15 => k_is); (case c15 => k_is); (case k15 => k_is); (case a16 => k_is); (case l16 => k_is); (case c16 => k_is); (case k16 => k_is); (case a17 => k_is); (case l17 => k_is); (case c17 => k_is); (case k17 => k_is); (case a18 => k_is); (case l18 => k_is); (case c18 => k_is); (case k18 => k_is); (case a19 => k_is); (case l19 => k_is); (case c19 => k_is); (case k19 => k_is); (case a20 => k_is); (case l20 => k_is); (case c20 => k_is); (case k20 => k_is); (case a21 => k_is); (case l21 => k_is); (case c21 => k_is); (case k21 => k_is); (case a22 => k_is); (case l22 => k_is); (case c22 => k_is); (case k22 => k_is); (case a23 => k_is); (case l23 => k_is); (case c23 => k_is); (case k23 => k_is); (case a24 => k_is); (case l24 => k_is); (case c24 => k_is); (case k24 => k_is); (case a25 => k_is); (case l25 => k_is); (case c25 => k_is); (case k25 => k_is); (case a26 => k_is); (case l26 => k_is); (case c26 => k_is); (case k26 => k_is); (case a27 => k_is); (case l27 => k_is); (case c27 => k_is); (case k27 => k_is); (case a28 => k_is); (case m28 => first | k_is | kernel_rfl); (case i28 => k_is); (case n28 => first | k_is | kernel_rfl); (case p28 => k_is); (case l28 => k_is); (case c28 => k_is); (case k28 => k_is); (case pg28 => first | k_is | kernel_rfl); (case hd28 => first | k_is | kernel_rfl); (case po28 => first | k_is | kernel_rfl); (case sb28 => first | k_is | kernel_rfl); (case nn28_0 => first | k_is | kernel_rfl); (case nn28_1 => first | k_is | kernel_rfl); (case nn28_2 => first | k_is | kernel_rfl); (case nn28_3 => first | k_is | kernel_rfl); (case nn28_4 => first | k_is | kernel_rfl); (case nn28_5 => first | k_is | kernel_rfl); (case nn28_6 => first | k_is | kernel_rfl); (case i29 => k_is); (case n29 => first | k_is | kernel_rfl); (case l29 => k_is); (case c29 => k_is); (case k29 => k_is); (case i30 => k_is); (case n30 => first | k_is | kernel_rfl); (case l30 => k_is); (case c30 => k_is); (case k30 => k_is); (case i31 => k_is); (case n31 => first | k_is | kernel_rfl); (case l31 => k_is); (case c31 => k_is); (case k31 => k_is); (case i32 => k_is); (case n32 => first | k_is | kernel_rfl); (case l32 => k_is); (case c32 => k_is); (case k32 => k_is); (case e0 => k_is); (case e1 => k_is); (case e2 => k_is); (case e3 => k_is); (case z0 => k_is); (case z1 => k_is); (case z2 => k_is); (case z3 => k_is); (case z4 => k_is); (case z5 => k_is); (case z6 => k_is); (case z7 => k_is); (case z8 => k_is); (case z9 => k_is); (case kk0 => k_is); (case xx0 => kernel_rfl); (case tt0 => k_is); (case kk1 => k_is); (case xx1 => kernel_rfl); (case tt1 => k_is); (case kk2 => k_is); (case xx2 => kernel_rfl); (case tt2 => k_is); (case kk3 => k_is); (case xx3 => kernel_rfl); (case tt3 => k_is); (case kk4 => k_is); (case xx4 => kernel_rfl); (case tt4 => k_is); (case kk5 => k_is); (case xx5 => kernel_rfl); (case tt5 => k_is); (case kk6 => k_is); (case xx6 => kernel_rfl); (case tt6 => k_is); (case kk7 => k_is); (case xx7 => kernel_rfl); (case tt7 => k_is); (case kk8 => k_is); (case xx8 => kernel_rfl); (case tt8 => k_is); (case kk9 => k_is); (case xx9 => kernel_rfl); (case tt9 => k_is); (case kk10 => k_is); (case xx10 => kernel_rfl); (case tt10 => k_is); (case kk11 => k_is); (case xx11 => kernel_rfl); (case tt11 => k_is); (case kk12 => k_is); (case xx12 => kernel_rfl); (case tt12 => k_is); (case kk13 => k_is); (case xx13 => kernel_rfl); (case tt13 => k_is); (case kk14 => k_is); (case xx14 => kernel_rfl); (case tt14 => k_is); (case kk15 => k_is); (case xx15 => kernel_rfl); (case tt15 => k_is); (case la3 => k_is); (case sa3 => k_is); (case ee3 => k_is); (case ke3 => k_is); (case ai3 => k_is); (case ti3 => k_is); (case li3 => k_is); (case ci3 => k_is); (case ki3 => k_is); (case nf3 => k_is); (case la5 => k_is); (case sa5 => k_is); (case ee5 => k_is); (case ke5 => k_is); (case ai5 => k_is); (case ti5 => k_is); (case li5 => k_is); (case ci5 => k_is); (case ki5 => k_is); (case nf5 => k_is); (case la12 => k_is); (case sa12 => k_is); (case ee12 => k_is); (case ke12 => k_is); (case ai12 => k_is); (case ti12 => k_is); (case li12 => k_is); (case ci12 => k_is); (case ki12 => k_is); (case nf12 => k_is); (case rr0 => k_is); (case rr1 => k_is); (case rr2 => k_is); (case ex6 => k_exc); (case pp6 => k_is); (case uu6 => k_is); (case qq6_0 => kernel_rfl); (case qq6_1 => kernel_rfl); (case qq6_2 => kernel_rfl); (case qq6_3 => kernel_rfl); (case qq6_4 => kernel_rfl); (case qq6_5 => kernel_rfl); (case qq6_6 => kernel_rfl); (case qq6_7 => kernel_rfl); (case qq6_8 => kernel_rfl); (case qq6_9 => kernel_rfl); (case qq6_10 => kernel_rfl); (case qq6_11 => kernel_rfl); (case qq6_12 => kernel_rfl); (case qq6_13 => kernel_rfl); (case qq6_14 => kernel_rfl); (case qq6_15 => kernel_rfl); (case qq6_16 => kernel_rfl); (case uu5 => k_is); (case qq5_0 => kernel_rfl); (case qq5_1 => kernel_rfl); (case qq5_2 => kernel_rfl); (case qq5_3 => kernel_rfl); (case qq5_4 => kernel_rfl); (case qq5_5 => kernel_rfl); (case qq5_6 => kernel_rfl); (case qq5_7 => kernel_rfl); (case qq5_8 => kernel_rfl); (case qq5_9 => kernel_rfl); (case qq5_10 => kernel_rfl); (case qq5_11 => kernel_rfl); (case qq5_12 => kernel_rfl); (case qq5_13 => kernel_rfl); (case qq5_14 => kernel_rfl); (case qq5_15 => kernel_rfl); (case qq5_16 => kernel_rfl); (case ex7 => k_exc); (case pp7 => k_is); (case uu7 => k_is); (case qq7_0 => kernel_rfl); (case qq7_1 => kernel_rfl); (case qq7_2 => kernel_rfl); (case qq7_3 => kernel_rfl); (case qq7_4 => kernel_rfl); (case qq7_5 => kernel_rfl); (case qq7_6 => kernel_rfl); (case qq7_7 => kernel_rfl); (case qq7_8 => kernel_rfl); (case qq7_9 => kernel_rfl); (case qq7_10 => kernel_rfl); (case qq7_11 => kernel_rfl); (case qq7_12 => kernel_rfl); (case qq7_13 => kernel_rfl); (case qq7_14 => kernel_rfl); (case qq7_15 => kernel_rfl); (case qq7_16 => kernel_rfl); (case ex1 => k_exc); (case pp1 => k_is); (case uu1 => k_is); (case qq1_0 => kernel_rfl); (case qq1_1 => kernel_rfl); (case qq1_2 => kernel_rfl); (case qq1_3 => kernel_rfl); (case qq1_4 => kernel_rfl); (case qq1_5 => kernel_rfl); (case qq1_6 => kernel_rfl); (case qq1_7 => kernel_rfl); (case qq1_8 => kernel_rfl); (case qq1_9 => kernel_rfl); (case qq1_10 => kernel_rfl); (case qq1_11 => kernel_rfl); (case qq1_12 => kernel_rfl); (case qq1_13 => kernel_rfl); (case qq1_14 => kernel_rfl); (case qq1_15 => kernel_rfl); (case qq1_16 => kernel_rfl); (case ex8 => k_exc); (case pp8 => k_is); (case uu8 => k_is); (case qq8_0 => kernel_rfl); (case qq8_1 => kernel_rfl); (case qq8_2 => kernel_rfl); (case qq8_3 => kernel_rfl); (case qq8_4 => kernel_rfl); (case qq8_5 => kernel_rfl); (case qq8_6 => kernel_rfl); (case qq8_7 => kernel_rfl); (case qq8_8 => kernel_rfl); (case qq8_9 => kernel_rfl); (case qq8_10 => kernel_rfl); (case qq8_11 => kernel_rfl); (case qq8_12 => kernel_rfl); (case qq8_13 => kernel_rfl); (case qq8_14 => kernel_rfl); (case qq8_15 => kernel_rfl); (case qq8_16 => kernel_rfl); (case uu12 => k_is); (case qq12_0 => kernel_rfl); (case qq12_1 => kernel_rfl); (case qq12_2 => kernel_rfl); (case qq12_3 => kernel_rfl); (case qq12_4 => kernel_rfl); (case qq12_5 => kernel_rfl); (case qq12_6 => kernel_rfl); (case qq12_7 => kernel_rfl); (case qq12_8 => kernel_rfl); (case qq12_9 => kernel_rfl); (case qq12_10 => kernel_rfl); (case qq12_11 => kernel_rfl); (case qq12_12 => kernel_rfl); (case qq12_13 => kernel_rfl); (case qq12_14 => kernel_rfl); (case qq12_15 => kernel_rfl); (case qq12_16 => kernel_rfl); (case uu3 => k_is); (case qq3_0 => kernel_rfl); (case qq3_1 => kernel_rfl); (case qq3_2 => kernel_rfl); (case qq3_3 => kernel_rfl); (case qq3_4 => kernel_rfl); (case qq3_5 => kernel_rfl); (case qq3_6 => kernel_rfl); (case qq3_7 => kernel_rfl); (case qq3_8 => kernel_rfl); (case qq3_9 => kernel_rfl); (case qq3_10 => kernel_rfl); (case qq3_11 => kernel_rfl); (case qq3_12 => kernel_rfl); (case qq3_13 => kernel_rfl); (case qq3_14 => kernel_rfl); (case qq3_15 => kernel_rfl); (case qq3_16 => kernel_rfl); (case ex2 => k_exc); (case pp2 => k_is); (case uu2 => k_is); (case qq2_0 => kernel_rfl); (case qq2_1 => kernel_rfl); (case qq2_2 => kernel_rfl); (case qq2_3 => kernel_rfl); (case qq2_4 => kernel_rfl); (case qq2_5 => kernel_rfl); (case qq2_6 => kernel_rfl); (case qq2_7 => kernel_rfl); (case qq2_8 => kernel_rfl); (case qq2_9 => kernel_rfl); (case qq2_10 => kernel_rfl); (case qq2_11 => kernel_rfl); (case qq2_12 => kernel_rfl); (case qq2_13 => kernel_rfl); (case qq2_14 => kernel_rfl); (case qq2_15 => kernel_rfl); (case qq2_16 => kernel_rfl); (case ex4 => k_exc); (case pp4 => k_is); (case uu4 => k_is); (case qq4_0 => kernel_rfl); (case qq4_1 => kernel_rfl); (case qq4_2 => kernel_rfl); (case qq4_3 => kernel_rfl); (case qq4_4 => kernel_rfl); (case qq4_5 => kernel_rfl); (case qq4_6 => kernel_rfl); (case qq4_7 => kernel_rfl); (case qq4_8 => kernel_rfl); (case qq4_9 => kernel_rfl); (case qq4_10 => kernel_rfl); (case qq4_11 => kernel_rfl); (case qq4_12 => kernel_rfl); (case qq4_13 => kernel_rfl); (case qq4_14 => kernel_rfl); (case qq4_15 => kernel_rfl); (case qq4_16 => kernel_rfl)
