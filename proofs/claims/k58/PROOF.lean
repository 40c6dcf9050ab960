import PyProof.Rows.All
import Wide.All
import OpenK.AllK
import Wide.FinOn
import HandS.ForMost
import HandS.NoneIn
import HandS.Conv
import HandS.IsInst
import HandS.Wide
import HandS.SortInts
import HandS.Walk
import KE.DataMinMax
import HandS.ForExc
import HandS.ExcInit
import KE.KExcIs
import HandS.ExcField
import HandS.ExcIs
import HandS.Text
import HandS.Zip
import HandS.Exc
import HandS.WordsDict
import HandS.Deep
import HandS.Iter
import HandS.Sort
import HandS.Dict
import HandS.ExcOwn
import HandS.More
import HandS.Style
import HandS.List
import HandS.Rev
import HandS.Set
import HandS.Strs
import PySem.Challenge.RW_tiehues_k58_whole_wide_things_judged
set_option Elab.async false
set_option linter.all false
set_option maxRecDepth 100000
set_option maxHeartbeats 4000000
set_option synthInstance.maxHeartbeats 0
set_option synthInstance.maxSize 1000000
namespace Cm
open PySem PySem.Spec PyProof.Rows L2

/-! ### named readings -/
def rLenX (K : PySem.W.Frag) : List V → Hp → VK → Prop := fun xs H Q => ∃ p ys, xs = [.ref p] ∧ (SqL K H p ys ∨ SqT K H p ys) ∧ Q (.int ys.length) H
theorem q_len {X : Cx} : CallR X (.builtin "len") (rLenX X.K) := call_len_seq
def rListOf (K : PySem.W.Frag) : List V → Hp → VK → Prop := fun xs H Q => ∃ p ys, xs = [.ref p] ∧ (SqL K H p ys ∨ SqT K H p ys) ∧ ∀ l, H l = none → Q (.ref l) (upd H l (.lst ys))
theorem q_listOf {X : Cx} : CallR X (.type "list") (rListOf X.K) := call_list_of
def rMax2 : List V → Hp → VK → Prop := fun xs H Q => ∃ i j, xs = [.int i, .int j] ∧ Q (.int (if j > i then j else i)) H
theorem q_max2 {X : Cx} (hc : X.calm = true) : CallR X (.builtin "max") rMax2 := call_max2 hc
def rMin2 : List V → Hp → VK → Prop := fun xs H Q => ∃ i j, xs = [.int i, .int j] ∧ Q (.int (if j < i then j else i)) H
theorem q_min2 {X : Cx} (hc : X.calm = true) : CallR X (.builtin "min") rMin2 := call_min2 hc
theorem q_isi {X : Cx} : CallR X (.builtin "isinstance") (rIsi X.K) := call_isi
def rIntOf : List V → Hp → VK → Prop := fun xs H Q => (∃ i, xs = [.int i] ∧ Q (.int i) H) ∨ ∃ k, xs = [.bl k] ∧ Q (.int (if k then 1 else 0)) H
theorem q_intB {X : Cx} : CallR X (.type "int") rIntOf := call_int1
theorem q_intI {X : Cx} : CallR X (.type "int") rIntOf := call_int1

/-! ### operators by names -/
def xAdd : R2 := rI0 fun i j => .int (i + j)
def xSub : R2 := rI0 fun i j => .int (i - j)
def xMul : R2 := rI CMul fun i j => .int (i * j)
def xMulW : R2 := rI CMulW fun i j => .int (i * j)
def xDiv : R2 := rI CDiv fun i j => .int (i / j)
def xDivW : R2 := rI CDivW fun i j => .int (i / j)
def xMod : R2 := rI (fun _ j => 0 < j) fun i j => .int (i % j)
def xPow : R2 := rI CPow fun i j => .int (i ^ j.toNat)
def xLt : R2 := rI0 fun i j => .bl (decide (i < j))
def xLe : R2 := rI0 fun i j => .bl (decide (i ≤ j))
def xGt : R2 := rI0 fun i j => .bl (decide (j < i))
def xGe : R2 := rI0 fun i j => .bl (decide (j ≤ i))
def xNeg : V → Hp → VK → Prop := rU fun i => .int (-i)
def xIsN : R2 := fun x y H Q => y = .non ∧ Q (.bl (decide (x = .non))) H
def xNotN : R2 := fun x y H Q => y = .non ∧ Q (.bl (!decide (x = .non))) H
def xTru (K : PySem.W.Frag) (ta : TE) : TT := fun σ H Q => ta σ H fun x H' => ∃ k, TruV K x H' k ∧ Q k H'

/-! ### xs[i] += e -/
def rGetL (K : PySem.W.Frag) : V → V → Hp → VK → Prop := fun x y H Q => ∃ p xs i v, x = .ref p ∧ y = .int i ∧ SqL K H p xs ∧ 0 ≤ i ∧ atI xs i = some v ∧ Q v H
theorem get_list {X : Cx} : PGet X (rGetL X.K) := by
  intro pins s σ H x y v u Q I rx ry h
  obtain ⟨p, xs, i, z, rfl, rfl, hq, h0, he, q⟩ := h
  cases rx
  obtain ⟨t, rfl⟩ := ry
  obtain ⟨its, r, pl, hz⟩ := I.list hq
  obtain ⟨j, h1, h2, h3, h4, h5⟩ := atI_get he
  obtain ⟨w, ew, rw'⟩ := r.get h2
  have hl := r.length
  have hn := line63
  have fin : EP X pins σ Q w s := ⟨z, H, I, rw', q⟩
  have hj : i.toNat = j := by
    rw [seqIndex_of h0 h5] at h1
    exact Option.some.inj h1
  exact wpAny_getItem_list pl.isList h0 (by omega) (by rw [hj]; simpa using ew) fin
def xAugL (K : PySem.W.Frag) (to ti te : TE) : TS := tAugS to ti te (rGetL K) (ipI fun i j => i + j) rSetL
theorem q_augL {X : Cx} {o i e : Expr} {to ti te : TE} {tpos pos : Pos} (ho : PE X o to) (hi : PE X i ti) (he : PE X e te)
    (ha : ∀ ov iv new, augStore i ov iv new = (do holding [new, ov, iv] (setItem ov iv new); release [new, ov, iv] []; pure .next) := by intros; rfl) : PS X (.AugAssign (.Subscript o i tpos) .Add e pos) (xAugL X.K to ti te) :=
  ps_augS ho hi get_list he ip_add set_list ha

/-! ### constants of the module -/
def g_tok (mg : Str → Option Value) (x : Str) : Tok := match mg x with
  | some (.int _ t) => t
  | _ => default
theorem tok_mk {mg : Str → Option Value} {x : Str} {n : Int} {t : Tok} (h : mg x = some (.int n t)) : mg x = some (.int n (g_tok mg x)) := by
  unfold g_tok
  rw [h]

/-! ### heaps -/
theorem same_new {H : Hp} {p : Addr} {o : HO} (h : H p = none) : Same H (upd H p o) := fun b x e => by
  rw [upd_ne (ne_of_none e h)]
  exact e
theorem same_mut {H H' : Hp} {p : Addr} {o : HO} (e : Same H H') (h : H p = none) : Same H (upd H' p o) := fun a u ha => by
  rw [upd_ne (ne_of_none ha h)]
  exact e a u ha
theorem same_seqT {K : PySem.W.Frag} {H H' : Hp} {a : Addr} {xs : List V} (e : Same H H') (h : SqT K H a xs) : SqT K H' a xs := by
  rcases h with (h | ⟨o, h⟩) | h
  · exact .inl (.inl (e _ _ h))
  · exact .inl (.inr ⟨o, e _ _ h⟩)
  · exact .inr h
theorem sl {K : PySem.W.Frag} {H : Hp} {a : Addr} {xs : List V} (h : H a = some (.lst xs)) : SqL K H a xs := .inl (.inl h)
theorem stp {K : PySem.W.Frag} {H : Hp} {a : Addr} {xs : List V} (h : H a = some (.tup xs)) : SqT K H a xs := .inl (.inl h)
theorem sz {n : Nat} (h : n ≤ 100000) : n ≤ sizeLine := Nat.le_trans h (by decide)
theorem szl {n : Nat} (h : n < 100000) : n < sizeLine := Nat.lt_of_lt_of_le h (by decide)

/-! ### data -/
mutual
theorem dp_same {K : PySem.W.Frag} {H H' : Hp} (e : Same H H') : ∀ {v : V} {d : PyData}, Dp K H v d → Dp K H' v d
  | _, _, .non => .non
  | _, _, .bl b => .bl b
  | _, _, .int i => .int i
  | _, _, .str x => .str x
  | _, _, .lst s r => .lst (e.seq s) (dpa_same e r)
  | _, _, .tup s r => .tup (same_seqT e s) (dpa_same e r)
theorem dpa_same {K : PySem.W.Frag} {H H' : Hp} (e : Same H H') : ∀ {vs : List V} {ds : List PyData}, DpAll K H vs ds → DpAll K H' vs ds
  | _, _, .nil => .nil
  | _, _, .cons h r => .cons (dp_same e h) (dpa_same e r)
end
section
variable {K : PySem.W.Frag} {H : Hp}
theorem dp_int {v : V} {i : Int} (h : Dp K H v (.int i)) : v = .int i := by cases h; rfl
theorem dp_bool {v : V} {b : Bool} (h : Dp K H v (.bool b)) : v = .bl b := by cases h; rfl
theorem dp_str {v : V} {s : Str} (h : Dp K H v (.str s)) : v = .str s := by cases h; rfl
theorem dp_list {v : V} {ds : List PyData} (h : Dp K H v (.list ds)) : ∃ a xs, v = .ref a ∧ SqL K H a xs ∧ DpAll K H xs ds := by
  cases h with | lst s r => exact ⟨_, _, rfl, s, r⟩
theorem dp_tup {v : V} {ds : List PyData} (h : Dp K H v (.tuple ds)) : ∃ a xs, v = .ref a ∧ SqT K H a xs ∧ DpAll K H xs ds := by
  cases h with | tup s r => exact ⟨_, _, rfl, s, r⟩
theorem dp_tup2 {v : V} {c d : PyData} (h : Dp K H v (.tuple [c, d])) : ∃ a x y, v = .ref a ∧ SqT K H a [x, y] ∧ Dp K H x c ∧ Dp K H y d := by
  cases h with | tup s r =>
    cases r with | cons h1 r =>
      cases r with | cons h2 r =>
        cases r
        exact ⟨_, _, _, rfl, s, h1, h2⟩
theorem dp_pair {v : V} {a b : Int} (h : Dp K H v (.tuple [.int a, .int b])) : ∃ p, v = .ref p ∧ SqT K H p [.int a, .int b] := by
  obtain ⟨p, x, y, rfl, s, h1, h2⟩ := dp_tup2 h
  rw [dp_int h1, dp_int h2] at s
  exact ⟨p, rfl, s⟩
theorem dpa_ints : ∀ {ns : List Int} {vs : List V}, DpAll K H vs (ns.map PyData.int) → vs = ns.map V.int
  | [], _, h => by cases h; rfl
  | n :: r, _, h => by
    cases h with | cons h1 h2 => rw [dp_int h1, dpa_ints h2]; rfl
theorem dpa_of_ints : ∀ ns : List Int, DpAll K H (ns.map V.int) (ns.map PyData.int)
  | [] => .nil
  | n :: r => .cons (.int n) (dpa_of_ints r)
theorem dpa_len : ∀ {vs : List V} {ds : List PyData}, DpAll K H vs ds → vs.length = ds.length
  | _, _, .nil => rfl
  | _, _, .cons _ r => by simp [dpa_len r]
theorem dpa_get : ∀ {vs : List V} {ds : List PyData} {i : Nat} {v : V}, DpAll K H vs ds → vs[i]? = some v → ∃ d, ds[i]? = some d ∧ Dp K H v d
  | _, _, _, _, .nil, e => by simp at e
  | _, _, 0, _, .cons h _, e => by simp at e; subst e; exact ⟨_, rfl, h⟩
  | _, _, i + 1, _, .cons _ r, e => by
    obtain ⟨d, h1, h2⟩ := dpa_get (i := i) r (by simpa using e)
    exact ⟨d, by simpa using h1, h2⟩
theorem dpa_get2 : ∀ {vs : List V} {ds : List PyData} {i : Nat} {d : PyData}, DpAll K H vs ds → ds[i]? = some d → ∃ v, vs[i]? = some v ∧ Dp K H v d
  | _, _, _, _, .nil, e => by simp at e
  | _, _, 0, _, .cons h _, e => by simp at e; subst e; exact ⟨_, rfl, h⟩
  | _, _, i + 1, _, .cons _ r, e => by
    obtain ⟨d, h1, h2⟩ := dpa_get2 (i := i) r (by simpa using e)
    exact ⟨d, by simpa using h1, h2⟩
theorem dpa_app {vs ws : List V} {ds es : List PyData} : DpAll K H vs ds → DpAll K H ws es → DpAll K H (vs ++ ws) (ds ++ es)
  | .nil, r => r
  | .cons h t, r => .cons h (dpa_app t r)
/-- a list of ints -/
abbrev dInts (ns : List Int) : PyData := .list (ns.map PyData.int)
theorem dp_ints {v : V} {ns : List Int} (h : Dp K H v (dInts ns)) : ∃ a, v = .ref a ∧ SqL K H a (ns.map V.int) := by
  obtain ⟨a, xs, rfl, s, r⟩ := dp_list h
  rw [dpa_ints r] at s
  exact ⟨a, rfl, s⟩
theorem dp_of_ints {a : Addr} {ns : List Int} (h : SqL K H a (ns.map V.int)) : Dp K H (.ref a) (dInts ns) := .lst h (dpa_of_ints ns)
/-- a pair of ints -/
abbrev dPair (p : Int × Int) : PyData := .tuple [.int p.1, .int p.2]
theorem dp_of_pair {a : Addr} {x y : Int} (h : SqT K H a [.int x, .int y]) : Dp K H (.ref a) (dPair (x, y)) := .tup h (.cons (.int x) (.cons (.int y) .nil))
abbrev dPairs (ps : List (Int × Int)) : PyData := .list (ps.map dPair)
end

theorem dpairs_get {K : PySem.W.Frag} {H : Hp} {xs : List V} {ps : List (Int × Int)} {i : Nat} {x : V} (hxs : DpAll K H xs (ps.map dPair)) (hx : xs[i]? = some x) : ∃ p c, ps[i]? = some p ∧ x = .ref c ∧ SqT K H c [.int p.1, .int p.2] := by
  obtain ⟨d, hd, hdx⟩ := dpa_get hxs hx
  rw [List.getElem?_map] at hd
  obtain ⟨p, hp, rfl⟩ := Option.map_eq_some_iff.mp hd
  obtain ⟨c, rfl, hcs⟩ := dp_pair hdx
  exact ⟨p, c, hp, rfl, hcs⟩
/-- data that may be compared: no dicts, at most n deep -/
def Sh (n : Nat) (d : PyData) : Prop := d.canLay0 = true ∧ d.depth ≤ n
theorem Sh.shaped {n : Nat} {d : PyData} (h : Sh n d) (hn : n ≤ 64) : SeqAt.shaped d = true := by
  unfold SeqAt.shaped
  rw [h.1, decide_eq_true (Nat.le_trans h.2 hn)]; rfl
theorem Sh.mono {n m : Nat} {d : PyData} (h : Sh n d) (hn : n ≤ m) : Sh m d := ⟨h.1, Nat.le_trans h.2 hn⟩
theorem sh_int {n : Nat} {i : Int} : Sh n (.int i) := ⟨rfl, Nat.zero_le _⟩
theorem sh_bool {n : Nat} {b : Bool} : Sh n (.bool b) := ⟨rfl, Nat.zero_le _⟩
theorem sh_none {n : Nat} : Sh n .none := ⟨rfl, Nat.zero_le _⟩
theorem sh_all {n : Nat} : ∀ {ds : List PyData}, (∀ d ∈ ds, Sh n d) → PyData.canLayAll0 ds = true ∧ PyData.depthAll ds ≤ n
  | [], _ => ⟨rfl, Nat.zero_le _⟩
  | d :: r, h => by
    obtain ⟨h1, h2⟩ := sh_all (ds := r) fun x hx => h x (List.mem_cons_of_mem _ hx)
    obtain ⟨h3, h4⟩ := h d List.mem_cons_self
    refine ⟨?_, ?_⟩
    · show (PyData.canLay0 d && PyData.canLayAll0 r) = true
      rw [h3, h1]; rfl
    · show max d.depth (PyData.depthAll r) ≤ n
      omega
theorem sh_list {n : Nat} {ds : List PyData} (h : ∀ d ∈ ds, Sh n d) : Sh (n + 1) (.list ds) := by
  obtain ⟨h1, h2⟩ := sh_all h
  exact ⟨h1, by show PyData.depthAll ds + 1 ≤ n + 1; omega⟩
theorem sh_tup {n : Nat} {ds : List PyData} (h : ∀ d ∈ ds, Sh n d) : Sh (n + 1) (.tuple ds) := by
  obtain ⟨h1, h2⟩ := sh_all h
  exact ⟨h1, by show PyData.depthAll ds + 1 ≤ n + 1; omega⟩
theorem sh_ints {n : Nat} (ns : List Int) : Sh (n + 1) (dInts ns) := sh_list fun d hd => by
  obtain ⟨i, _, rfl⟩ := List.mem_map.mp hd
  exact sh_int
theorem sh_pair {n : Nat} (p : Int × Int) : Sh (n + 1) (dPair p) := sh_tup fun d hd => by
  rcases List.mem_cons.mp hd with rfl | hd
  · exact sh_int
  · rcases List.mem_cons.mp hd with rfl | hd
    · exact sh_int
    · cases hd
theorem sh_pairs {n : Nat} (ps : List (Int × Int)) : Sh (n + 2) (dPairs ps) := sh_list fun d hd => by
  obtain ⟨p, _, rfl⟩ := List.mem_map.mp hd
  exact sh_pair p
theorem sh_two {n : Nat} {c d : PyData} (h1 : Sh n c) (h2 : Sh n d) : Sh (n + 1) (.tuple [c, d]) := sh_tup fun x hx => by
  rcases List.mem_cons.mp hx with rfl | hx
  · exact h1
  · rcases List.mem_cons.mp hx with rfl | hx
    · exact h2
    · cases hx
theorem Sh.refl {n : Nat} {d : PyData} (h : Sh n d) : PyData.eqv d d = true := SeqAt.eqv_refl d h.1
theorem ff_iff {P : Prop} (h : ¬ P) : false = true ↔ P := ⟨fun z => (nomatch z), fun z => (h z).elim⟩
theorem tt_iff {P : Prop} (h : P) : true = true ↔ P := ⟨fun _ => h, fun _ => rfl⟩

theorem ixN_of {n : Nat} {i : Int} (h0 : 0 ≤ i) (h1 : i < n) : ixN n i = some i.toNat := by unfold ixN; rw [if_pos h0, if_pos h1]
theorem map_erase (ns : List Int) (i : Nat) : (ns.map V.int).eraseIdx i = (ns.eraseIdx i).map V.int := by
  induction ns generalizing i with
  | nil => rfl
  | cons x r ih => cases i with
    | zero => rfl
    | succ i => show V.int x :: (r.map V.int).eraseIdx i = _; rw [ih]; rfl
theorem erase_perm {α : Type} (l : List α) (i : Nat) (h : i < l.length) : (l[i] :: l.eraseIdx i).Perm l := by
  induction l generalizing i with
  | nil => exact absurd h (by simp)
  | cons x r ih => cases i with
    | zero => exact List.Perm.refl _
    | succ i =>
      have h' : i < r.length := by simpa using h
      show (r[i] :: x :: r.eraseIdx i).Perm (x :: r)
      exact (List.Perm.swap _ _ _).trans ((ih i h').cons x)
theorem getD_memI {ns : List Int} {i : Int} (h0 : 0 ≤ i) (h1 : i < ns.length) : ns.getD i.toNat 0 ∈ ns := by
  have h : i.toNat < ns.length := by omega
  rw [List.getD_eq_getElem?_getD, List.getElem?_eq_getElem h]
  exact List.getElem_mem h
theorem not_in2 {p a b : Addr} (h1 : p ≠ a) (h2 : p ≠ b) : p ∉ [a, b] := by
  intro z
  rcases List.mem_cons.mp z with z | z
  · exact h1 z
  · rcases List.mem_cons.mp z with z | z
    · exact h2 z
    · cases z

/-! ### readings, step by step -/
section
variable {K : PySem.W.Frag} {σ : L2.St} {H : Hp} {D : Ends} {Q : VK} {ta tb te : TE} {t u : TT} {s1 s2 : TS} {QT : Bool → Hp → Prop} {QA : List V → Hp → Prop} {tr : TA} {QS : L2.St → Hp → Prop}
theorem k_seq {nx : L2.St → Hp → Prop} {rt : VK} {bk ct : L2.St → Hp → Prop} (h : s1 ⟨s2 ⟨nx, rt, bk, ct⟩, rt, bk, ct⟩ σ H) : tSeq s1 s2 ⟨nx, rt, bk, ct⟩ σ H := h
theorem k_nx {nx : L2.St → Hp → Prop} {rt : VK} {bk ct : L2.St → Hp → Prop} (h : nx σ H) : Ends.nx ⟨nx, rt, bk, ct⟩ σ H := h
theorem k_next {nx : L2.St → Hp → Prop} {rt : VK} {bk ct : L2.St → Hp → Prop} (h : nx σ H) : tNext ⟨nx, rt, bk, ct⟩ σ H := h
theorem k_cont {nx : L2.St → Hp → Prop} {rt : VK} {bk ct : L2.St → Hp → Prop} (h : ct σ H) : tCont ⟨nx, rt, bk, ct⟩ σ H := h
theorem k_brk {nx : L2.St → Hp → Prop} {rt : VK} {bk ct : L2.St → Hp → Prop} (h : bk σ H) : tBreak ⟨nx, rt, bk, ct⟩ σ H := h
theorem k_set {nx : L2.St → Hp → Prop} {rt : VK} {bk ct : L2.St → Hp → Prop} {i : Nat} (h : te σ H fun x H1 => nx (σ.set i (some x)) H1) : tAsg te (gName i) ⟨nx, rt, bk, ct⟩ σ H := h
theorem k_asg {nx : L2.St → Hp → Prop} {rt : VK} {bk ct : L2.St → Hp → Prop} {g : TG} (h : te σ H fun x H1 => g x σ H1 nx) : tAsg te g ⟨nx, rt, bk, ct⟩ σ H := h
theorem k_drop {nx : L2.St → Hp → Prop} {rt : VK} {bk ct : L2.St → Hp → Prop} (h : te σ H fun _ H1 => nx σ H1) : tDrop te ⟨nx, rt, bk, ct⟩ σ H := h
theorem k_ret {nx : L2.St → Hp → Prop} {rt : VK} {bk ct : L2.St → Hp → Prop} (h : te σ H rt) : tRet te ⟨nx, rt, bk, ct⟩ σ H := h
theorem k_retN {nx : L2.St → Hp → Prop} {rt : VK} {bk ct : L2.St → Hp → Prop} (h : rt .non H) : tRetN ⟨nx, rt, bk, ct⟩ σ H := h
theorem k_aug {nx : L2.St → Hp → Prop} {rt : VK} {bk ct : L2.St → Hp → Prop} {i : Nat} {f : Int → Int → Int} {a : Int} (e : σ[i]? = some (some (.int a))) (h : te σ H fun y H1 => ipI f (.int a) y H1 fun z H2 => nx (σ.set i (some z)) H2) : tAug i te (ipI f) ⟨nx, rt, bk, ct⟩ σ H := ⟨_, e, h⟩
theorem k_augL {nx : L2.St → Hp → Prop} {rt : VK} {bk ct : L2.St → Hp → Prop} {to ti : TE} (h : to σ H fun o H1 => ti σ H1 fun i H2 => rGetL K o i H2 fun x H3 => te σ H3 fun y H4 => ipI (fun i j => i + j) x y H4 fun z H5 => rSetL o i z H5 fun H6 => nx σ H6) : xAugL K to ti te ⟨nx, rt, bk, ct⟩ σ H := h
theorem k_ipI {f : Int → Int → Int} {a b : Int} (h : Q (.int (f a b)) H) : ipI f (.int a) (.int b) H Q := ⟨a, b, rfl, rfl, h⟩
theorem k_if (h : t σ H fun b H1 => if b = true then s1 D σ H1 else s2 D σ H1) : tIfS t s1 s2 D σ H := h
theorem k_var {i : Nat} {v : V} (e : σ[i]? = some (some v)) (h : Q v H) : tVar i σ H Q := ⟨v, e, h⟩
theorem k_c {v : V} (h : Q v H) : tC v σ H Q := h
theorem k_op {r : R2} (h : ta σ H fun x H1 => tb σ H1 fun y H2 => r x y H2 Q) : tOp r ta tb σ H Q := h
theorem k_un {r : V → Hp → VK → Prop} (h : ta σ H fun x H1 => r x H1 Q) : tUn r ta σ H Q := h
theorem k_I0 {g : Int → Int → V} {i j : Int} (h : Q (g i j) H) : rI0 g (.int i) (.int j) H Q := ⟨i, j, rfl, rfl, h⟩
theorem k_I {C : Int → Int → Prop} {g : Int → Int → V} {i j : Int} (hc : C i j) (h : Q (g i j) H) : rI C g (.int i) (.int j) H Q := ⟨i, j, rfl, rfl, hc, h⟩
theorem k_add {i j : Int} (h : Q (.int (i + j)) H) : xAdd (.int i) (.int j) H Q := ⟨i, j, rfl, rfl, h⟩
theorem k_sub {i j : Int} (h : Q (.int (i - j)) H) : xSub (.int i) (.int j) H Q := ⟨i, j, rfl, rfl, h⟩
theorem k_mul {i j : Int} (hc : CMul i j) (h : Q (.int (i * j)) H) : xMul (.int i) (.int j) H Q := ⟨i, j, rfl, rfl, hc, h⟩
theorem k_mulW {i j : Int} (hc : CMulW i j) (h : Q (.int (i * j)) H) : xMulW (.int i) (.int j) H Q := ⟨i, j, rfl, rfl, hc, h⟩
theorem k_div {i j : Int} (hc : CDiv i j) (h : Q (.int (i / j)) H) : xDiv (.int i) (.int j) H Q := ⟨i, j, rfl, rfl, hc, h⟩
theorem k_divW {i j : Int} (hc : CDivW i j) (h : Q (.int (i / j)) H) : xDivW (.int i) (.int j) H Q := ⟨i, j, rfl, rfl, hc, h⟩
theorem k_mod {i j : Int} (hc : 0 < j) (h : Q (.int (i % j)) H) : xMod (.int i) (.int j) H Q := ⟨i, j, rfl, rfl, hc, h⟩
theorem k_pow {i j : Int} (hc : CPow i j) (h : Q (.int (i ^ j.toNat)) H) : xPow (.int i) (.int j) H Q := ⟨i, j, rfl, rfl, hc, h⟩
theorem k_lt {i j : Int} (h : Q (.bl (decide (i < j))) H) : xLt (.int i) (.int j) H Q := ⟨i, j, rfl, rfl, h⟩
theorem k_le {i j : Int} (h : Q (.bl (decide (i ≤ j))) H) : xLe (.int i) (.int j) H Q := ⟨i, j, rfl, rfl, h⟩
theorem k_gt {i j : Int} (h : Q (.bl (decide (j < i))) H) : xGt (.int i) (.int j) H Q := ⟨i, j, rfl, rfl, h⟩
theorem k_ge {i j : Int} (h : Q (.bl (decide (j ≤ i))) H) : xGe (.int i) (.int j) H Q := ⟨i, j, rfl, rfl, h⟩
theorem k_neg {i : Int} (h : Q (.int (-i)) H) : xNeg (.int i) H Q := ⟨i, rfl, h⟩
theorem k_U {g : Int → V} {i : Int} (h : Q (g i) H) : rU g (.int i) H Q := ⟨i, rfl, h⟩
theorem k_eqI {i j : Int} (h : Q (.bl (decide (i = j))) H) : rEq (.int i) (.int j) H Q := ⟨rfl, by
  have e : decide (V.int i = V.int j) = decide (i = j) := by
    by_cases c : i = j
    · rw [decide_eq_true c, decide_eq_true (by rw [c])]
    · rw [decide_eq_false c, decide_eq_false (fun z => c (V.int.inj z))]
  rw [e]; exact h⟩
theorem k_neI {i j : Int} (h : Q (.bl (!decide (i = j))) H) : rNe (.int i) (.int j) H Q := ⟨rfl, by
  have e : decide (V.int i = V.int j) = decide (i = j) := by
    by_cases c : i = j
    · rw [decide_eq_true c, decide_eq_true (by rw [c])]
    · rw [decide_eq_false c, decide_eq_false (fun z => c (V.int.inj z))]
  rw [e]; exact h⟩
theorem k_test (h : te σ H fun x H1 => ∃ k, x = .bl k ∧ QT k H1) : tTest te σ H QT := h
theorem k_B (h : te σ H fun x H1 => ∃ k, x = .bl k ∧ QT k H1) : tB te σ H QT := h
theorem k_bl {b : Bool} {R : Bool → Prop} (h : R b) : ∃ k, V.bl b = .bl k ∧ R k := ⟨b, rfl, h⟩
theorem k_and (h : t σ H fun c H1 => if c = true then u σ H1 QT else QT false H1) : tAnd t u σ H QT := h
theorem k_or (h : t σ H fun c H1 => if c = true then QT true H1 else u σ H1 QT) : tOr t u σ H QT := h
theorem k_not (h : t σ H fun c H1 => QT (!c) H1) : tNot t σ H QT := h
theorem k_notV (h : ta σ H fun x H1 => ∃ c, x = .bl c ∧ Q (.bl (!c)) H1) : tNotV ta σ H Q := h
theorem k_andV (h : ta σ H fun x H1 => ∃ c, x = .bl c ∧ if c = true then tb σ H1 Q else Q (.bl false) H1) : tAndV ta tb σ H Q := h
theorem k_orV (h : ta σ H fun x H1 => ∃ c, x = .bl c ∧ if c = true then Q (.bl true) H1 else tb σ H1 Q) : tOrV ta tb σ H Q := h
theorem k_cb {r : List V → Hp → VK → Prop} (h : tr σ H fun vs H1 => r vs H1 Q) : tCB r tr σ H Q := h
theorem k_nil (h : QA [] H) : tNil σ H QA := h
theorem k_cons (h : ta σ H fun x H1 => tr σ H1 fun xs H2 => QA (x :: xs) H2) : tCons ta tr σ H QA := h
theorem k_call {sp : Sp} {dvs : List V} {E : XK} (h : tr σ H fun vs H1 => sp (vs ++ dvs) H1 Q E) : tCall sp dvs E tr σ H Q := h
theorem k_len {p : Addr} {ys : List V} (hs : SqL K H p ys) (h : Q (.int ys.length) H) : rLenX K [.ref p] H Q := ⟨p, ys, rfl, .inl hs, h⟩
theorem k_len0 {p : Addr} (hs : H p = some (.lst [])) (h : Q (.int 0) H) : rLenX K [.ref p] H Q := ⟨p, [], rfl, .inl (sl hs), h⟩
theorem k_lenT {p : Addr} {ys : List V} (hs : SqT K H p ys) (h : Q (.int ys.length) H) : rLenX K [.ref p] H Q := ⟨p, ys, rfl, .inr hs, h⟩
theorem k_lenI {p : Addr} {ns : List Int} (hs : SqL K H p (ns.map V.int)) (h : Q (.int ns.length) H) : rLenX K [.ref p] H Q := ⟨p, _, rfl, .inl hs, by rw [List.length_map]; exact h⟩
theorem k_list {p : Addr} {ys : List V} (hs : SqL K H p ys) (h : ∀ l, H l = none → Q (.ref l) (upd H l (.lst ys))) : rListOf K [.ref p] H Q := ⟨p, ys, rfl, .inl hs, h⟩
theorem k_lst (h : tr σ H fun xs H1 => xs.length ≤ sizeLine ∧ ∀ p, H1 p = none → Q (.ref p) (upd H1 p (.lst xs))) : tLst tr σ H Q := h
theorem k_tup (h : tr σ H fun xs H1 => xs.length ≤ sizeLine ∧ ∀ p, H1 p = none → Q (.ref p) (upd H1 p (.tup xs))) : tTup tr σ H Q := h
theorem k_new {xs : List V} {R : Addr → Prop} (hn : xs.length ≤ 100000) (h : ∀ p, H p = none → R p) : xs.length ≤ sizeLine ∧ ∀ p, H p = none → R p := ⟨sz hn, h⟩
theorem k_gtup {n : Nat} {g : TGs} {a : Addr} {xs : List V} (hs : SqT K H a xs) (hn : xs.length = n) (h : g xs σ H QS) : gTup K n g (.ref a) σ H QS := ⟨a, xs, rfl, hs, hn, h⟩
theorem k_gunl {n : Nat} {g : TGs} {a : Addr} {xs : List V} (hs : SqL K H a xs) (hn : xs.length = n) (h : g xs σ H QS) : gUnl K n g (.ref a) σ H QS := ⟨a, xs, rfl, hs, hn, h⟩
theorem k_gcons {g : TG} {gs : TGs} {v : V} {r : List V} (h : g v σ H fun σ' H' => gs r σ' H' QS) : gCons g gs (v :: r) σ H QS := ⟨v, r, rfl, h⟩
theorem k_gnil (h : QS σ H) : gNil [] σ H QS := ⟨rfl, h⟩
theorem k_gname {i : Nat} {v : V} (h : QS (σ.set i (some v)) H) : gName i v σ H QS := h
theorem k_gsub {to ti : TE} {ts : TSet} {v : V} (h : to σ H fun o H1 => ti σ H1 fun i H2 => ts o i v H2 fun H3 => QS σ H3) : gSub to ti ts v σ H QS := h
theorem k_setL {p : Addr} {xs : List V} {k : Int} {j : Nat} {v : V} {QH : Hp → Prop} (hp : H p = some (.lst xs)) (hj : ixN xs.length k = some j) (h : QH (upd H p (.lst (xs.set j v)))) : rSetL (.ref p) (.int k) v H QH := ⟨p, xs, k, j, rfl, rfl, hp, hj, h⟩
theorem k_ixL {p : Addr} {xs : List V} {i : Int} {v : V} (hs : SqL K H p xs) (ha : atI xs i = some v) (h : Q v H) : rIxL K (.ref p) (.int i) H Q := ⟨p, xs, i, v, rfl, rfl, hs, ha, h⟩
theorem k_ixT {p : Addr} {xs : List V} {i : Int} {v : V} (hs : SqT K H p xs) (ha : atI xs i = some v) (h : Q v H) : rIxT K (.ref p) (.int i) H Q := ⟨p, xs, i, v, rfl, rfl, hs, ha, h⟩
theorem k_min {p : Addr} {ns : List Int} (hs : SqL K H p (ns.map V.int)) (h0 : 0 < ns.length) (h : ∀ m, m ∈ ns → (∀ y, y ∈ ns → m ≤ y) → Q (.int m) H) : rMin K [.ref p] H Q := ⟨p, ns, rfl, hs, h0, h⟩
theorem k_max {p : Addr} {ns : List Int} (hs : SqL K H p (ns.map V.int)) (h0 : 0 < ns.length) (h : ∀ m, m ∈ ns → (∀ y, y ∈ ns → y ≤ m) → Q (.int m) H) : rMax K [.ref p] H Q := ⟨p, ns, rfl, hs, h0, h⟩
theorem k_popI {p : Addr} {ns : List Int} {i : Int} (hp : H p = some (.lst (ns.map V.int))) (h0 : 0 ≤ i) (h1 : i < ns.length) (h2 : i < 1000000) (h : Q (.int (ns.getD i.toNat 0)) (upd H p (.lst ((ns.eraseIdx i.toNat).map V.int)))) : rPopAt (.ref p) [.int i] H Q := by
  refine ⟨p, _, i, i.toNat, .int (ns.getD i.toNat 0), rfl, rfl, hp, by omega, by omega, ?_, ?_, ?_⟩
  · exact (ixN_seq (ixN_of h0 (by rw [List.length_map]; exact h1))).1
  · have hh : i.toNat < ns.length := by omega
    rw [List.getElem?_map, List.getElem?_eq_getElem hh]
    simp [List.getD_eq_getElem?_getD, List.getElem?_eq_getElem hh]
  · have e : (ns.map V.int).eraseIdx i.toNat = (ns.eraseIdx i.toNat).map V.int := map_erase ns _
    rw [e]; exact h
theorem k_sortedI {a : Addr} {ns : List Int} (hs : SqL K H a (ns.map V.int)) (h : ∀ (ns' : List Int) (p : Addr), ns'.Perm ns → ns'.Pairwise (· ≤ ·) → H p = none → Q (.ref p) (upd H p (.lst (ns'.map V.int)))) : rSortedI K [.ref a] H Q := ⟨a, ns, rfl, hs, h⟩
theorem k_max2 {i j : Int} (h : Q (.int (if j > i then j else i)) H) : rMax2 [.int i, .int j] H Q := ⟨i, j, rfl, h⟩
theorem k_min2 {i j : Int} (h : Q (.int (if j < i then j else i)) H) : rMin2 [.int i, .int j] H Q := ⟨i, j, rfl, h⟩
theorem k_bm {T : String} {r : V → List V → Hp → VK → Prop} (h : ta σ H fun x H1 => tyV K T x H1 ∧ tr σ H1 fun xs H2 => r x xs H2 Q) : tBM K T r ta tr σ H Q := h
theorem k_bm0 {T : String} {r : V → List V → Hp → VK → Prop} (h : ta σ H fun x H1 => tyV K T x H1 ∧ r x [] H1 Q) : tBM0 K T r ta σ H Q := h
theorem k_cat {p q : Addr} {xs ys : List V} (hp : H p = some (.lst xs)) (hq : H q = some (.lst ys)) (hz : xs.length + ys.length ≤ 100000) (h : ∀ l, H l = none → Q (.ref l) (upd H l (.lst (xs ++ ys)))) : rCat (.ref p) (.ref q) H Q := ⟨p, q, xs, ys, rfl, rfl, hp, hq, sz hz, h⟩
theorem k_tyL {p : Addr} {xs : List V} {R : Prop} (hp : SqL K H p xs) (h : R) : tyV K "list" (.ref p) H ∧ R := ⟨.inl ⟨rfl, _, hp⟩, h⟩
theorem k_append {p : Addr} {xs : List V} {y : V} (hp : H p = some (.lst xs)) (hn : xs.length < 100000) (h : Q .non (upd H p (.lst (xs ++ [y])))) : rAppend (.ref p) [y] H Q := ⟨p, xs, y, rfl, rfl, hp, szl hn, h⟩
theorem k_itT {b : Bool} {A B : Prop} (e : b = true) (h : A) : if b = true then A else B := by rw [if_pos e]; exact h
theorem k_itF {b : Bool} {A B : Prop} (e : b = false) (h : B) : if b = true then A else B := by rw [e]; exact h
theorem iteNT {A B : Prop} (h : B) : if (!true) = true then A else B := iteF h
theorem iteNF {A B : Prop} (h : A) : if (!false) = true then A else B := iteT h
theorem k_itDT {c A B : Prop} [Decidable c] (e : c) (h : A) : if decide c = true then A else B := by rw [if_pos (decide_eq_true e)]; exact h
theorem k_itDF {c A B : Prop} [Decidable c] (e : ¬ c) (h : B) : if decide c = true then A else B := by rw [decide_eq_false e]; exact h
theorem k_itNT {c A B : Prop} [Decidable c] (e : ¬ c) (h : A) : if (!decide c) = true then A else B := by rw [decide_eq_false e]; exact h
theorem k_itNF {c A B : Prop} [Decidable c] (e : c) (h : B) : if (!decide c) = true then A else B := by rw [decide_eq_true e]; exact h
theorem k_for {nx : L2.St → Hp → Prop} {rt : VK} {bk ct : L2.St → Hp → Prop} {wi : TI} {g : TG} {tb : TS} (h : wi σ H fun J H1 => ∃ W : Nat → Nat → L2.St → Hp → Prop, (∃ m, W 0 m σ H1) ∧ ∀ i m σ H, W i m σ H →
  (J.stop i H ∧ nx σ H) ∨ (J.go i H ∧ ∃ N : L2.St → Hp → Prop, (∀ σ' H', N σ' H' → ∃ m', m' < m ∧ W (i + 1) m' σ' H') ∧ ∀ x H', J.yld i H x H' → g x σ H' fun σ2 H2 => tb ⟨N, rt, nx, N⟩ σ2 H2)) : tFor wi g tb ⟨nx, rt, bk, ct⟩ σ H := h
theorem forL {nx : L2.St → Hp → Prop} {rt : VK} {b : Addr} {xs : List V} {g : TG} {tb : TS} (hs0 : SqL K H b xs) (Pv : Nat → L2.St → Hp → Prop) (h0 : Pv 0 σ H) (hl : ∀ i σ H, i ≤ xs.length → Pv i σ H → SqL K H b xs)
    (hs : ∀ (i : Nat) x σ H, xs[i]? = some x → Pv i σ H → g x σ H fun σ2 H2 => tb ⟨Pv (i + 1), rt, nx, Pv (i + 1)⟩ σ2 H2) (hd : ∀ σ H, Pv xs.length σ H → nx σ H) :
    ∃ a, V.ref b = .ref a ∧ (∃ xs, SqL K H a xs) ∧ ∃ W : Nat → Nat → L2.St → Hp → Prop, (∃ m, W 0 m σ H) ∧ ∀ i m σ H, W i m σ H →
      ((Itl K a).stop i H ∧ nx σ H) ∨ ((Itl K a).go i H ∧ ∃ N : L2.St → Hp → Prop, (∀ σ' H', N σ' H' → ∃ m', m' < m ∧ W (i + 1) m' σ' H') ∧ ∀ x H', (Itl K a).yld i H x H' → g x σ H' fun σ2 H2 => tb ⟨N, rt, nx, N⟩ σ2 H2) :=
  ⟨b, rfl, ⟨xs, hs0⟩, for_list (D := ⟨nx, rt, fun _ _ => False, fun _ _ => False⟩) Pv h0 hl hs hd⟩
theorem forR {nx : L2.St → Hp → Prop} {rt : VK} {lo : Int} {n : Nat} {g : TG} {tb : TS} (Pv : Nat → L2.St → Hp → Prop) (h0 : Pv 0 σ H)
    (hs : ∀ (i : Nat) σ H, i < n → Pv i σ H → g (.int (lo + i)) σ H fun σ2 H2 => tb ⟨Pv (i + 1), rt, nx, Pv (i + 1)⟩ σ2 H2) (hd : ∀ σ H, Pv n σ H → nx σ H) :
    ∃ W : Nat → Nat → L2.St → Hp → Prop, (∃ m, W 0 m σ H) ∧ ∀ i m σ H, W i m σ H →
      ((Itr lo n).stop i H ∧ nx σ H) ∨ ((Itr lo n).go i H ∧ ∃ N : L2.St → Hp → Prop, (∀ σ' H', N σ' H' → ∃ m', m' < m ∧ W (i + 1) m' σ' H') ∧ ∀ x H', (Itr lo n).yld i H x H' → g x σ H' fun σ2 H2 => tb ⟨N, rt, nx, N⟩ σ2 H2) :=
  for_range (D := ⟨nx, rt, fun _ _ => False, fun _ _ => False⟩) Pv h0 hs hd
theorem k_while {nx : L2.St → Hp → Prop} {rt : VK} {bk ct : L2.St → Hp → Prop} {c : TT} {tb : TS} (h : ∃ W : Nat → L2.St → Hp → Prop, (∃ m, W m σ H) ∧ ∀ m σ H, W m σ H →
  c σ H fun b H1 => if b = true then ∃ N : L2.St → Hp → Prop, (∀ σ' H', N σ' H' → ∃ m', m' < m ∧ W m' σ' H') ∧ tb ⟨N, rt, nx, N⟩ σ H1 else nx σ H1) : tWhile c tb ⟨nx, rt, bk, ct⟩ σ H := h
theorem whileW {nx : L2.St → Hp → Prop} {rt : VK} {bk ct : L2.St → Hp → Prop} {c : TT} {tb : TS} (W : Nat → L2.St → Hp → Prop) {m0 : Nat} (h0 : W m0 σ H)
    (hs : ∀ m σ H, W m σ H → c σ H fun b H1 => if b = true then tb ⟨fun σ' H' => ∃ m', m' < m ∧ W m' σ' H', rt, nx, fun σ' H' => ∃ m', m' < m ∧ W m' σ' H'⟩ σ H1 else nx σ H1)
    (mono : ∀ σ H (Q Q' : Bool → Hp → Prop), (∀ b H1, Q b H1 → Q' b H1) → c σ H Q → c σ H Q') : tWhile c tb ⟨nx, rt, bk, ct⟩ σ H := by
  refine ⟨W, ⟨m0, h0⟩, fun m σ H w => mono σ H _ _ (fun b H1 q => ?_) (hs m σ H w)⟩
  cases b with
  | true => exact ⟨_, fun σ' H' h => h, q⟩
  | false => exact q
theorem k_iList {R : It → Hp → Prop} (h : te σ H fun x H1 => ∃ a, x = .ref a ∧ (∃ xs, SqL K H1 a xs) ∧ R (Itl K a) H1) : iList K te σ H R := h
theorem k_iTup {R : It → Hp → Prop} (h : te σ H fun x H1 => ∃ a, x = .ref a ∧ (∃ xs, SqT K H1 a xs) ∧ R (Itt K a) H1) : iTup K te σ H R := h
theorem k_iZip {R : It → Hp → Prop} (h : tr σ H fun vs H1 => ∃ a b xs ys, vs = [.ref a, .ref b] ∧ SqL K H1 a xs ∧ SqL K H1 b ys ∧ R (Itz K a b) H1) : iZip K tr σ H R := h
theorem k_iEnum {R : It → Hp → Prop} (h : tr σ H fun vs H1 => ∃ a xs, vs = [.ref a] ∧ SqL K H1 a xs ∧ R (Ite K a) H1) : iEnum K tr σ H R := h
theorem k_iRng1 {R : It → Hp → Prop} (h : tr σ H fun vs H1 => ∃ j : Int, vs = [.int j] ∧ -(2 ^ 62) ≤ j ∧ j < 2 ^ 62 ∧ R (Itr 0 j.toNat) H1) : iRng1 tr σ H R := h
theorem k_iRng2 {R : It → Hp → Prop} (h : tr σ H fun vs H1 => ∃ i j : Int, vs = [.int i, .int j] ∧ (-(2 ^ 62) ≤ i ∧ i < 2 ^ 62 ∧ -(2 ^ 62) ≤ j ∧ j < 2 ^ 62) ∧ R (Itr i (j - i).toNat) H1) : iRng2 tr σ H R := h
theorem k_rj1 {j : Int} {R : Int → Prop} (h1 : -(2 ^ 62) ≤ j) (h2 : j < 2 ^ 62) (h : R j) : ∃ j' : Int, [V.int j] = [.int j'] ∧ -(2 ^ 62) ≤ j' ∧ j' < 2 ^ 62 ∧ R j' := ⟨j, rfl, h1, h2, h⟩
theorem k_rj2 {i j : Int} {R : Int → Int → Prop} (h1 : -(2 ^ 62) ≤ i ∧ i < 2 ^ 62 ∧ -(2 ^ 62) ≤ j ∧ j < 2 ^ 62) (h : R i j) : ∃ i' j' : Int, [V.int i, V.int j] = [.int i', .int j'] ∧ (-(2 ^ 62) ≤ i' ∧ i' < 2 ^ 62 ∧ -(2 ^ 62) ≤ j' ∧ j' < 2 ^ 62) ∧ R i' j' := ⟨i, j, rfl, h1, h⟩
theorem k_it {c A B : Prop} [Decidable c] (h1 : c → A) (h2 : ¬ c → B) : if decide c = true then A else B := by
  by_cases h : c
  · rw [if_pos (decide_eq_true h)]; exact h1 h
  · rw [decide_eq_false h]; exact h2 h
theorem k_itn {c A B : Prop} [Decidable c] (h1 : ¬ c → A) (h2 : c → B) : if (!decide c) = true then A else B := by
  by_cases h : c
  · rw [decide_eq_true h]; exact h2 h
  · rw [decide_eq_false h]; exact h1 h
theorem k_itb {b : Bool} {A B : Prop} (h1 : b = true → A) (h2 : b = false → B) : if b = true then A else B := by
  cases b with
  | true => exact h1 rfl
  | false => exact h2 rfl
theorem k_isi {x : V} {c : String} {tx : String} {b : Bool} (ht : TyX K H x (.type tx)) (hb : kitB tx c = some b) (h : Q (.bl b) H) : rIsi K [x, .ty c] H Q := ⟨x, .ty c, .type tx, .type c, b, rfl, .ty c, ht, kit_ty hb, h⟩

theorem ty_list {p : Addr} {xs : List V} (h : SqL K H p xs) : TyX K H (.ref p) (.type "list") := by
  rcases h with (h | ⟨o, h⟩) | ⟨o, its, n, h, c, _⟩
  · exact .base (.lst h)
  · exact .base (.frz h)
  · exact .kList h c
theorem k_isiL {p : Addr} {xs : List V} (hs : SqL K H p xs) (h : Q (.bl true) H) : rIsi K [.ref p, .ty "list"] H Q := k_isi (ty_list hs) (by decide +kernel) h
theorem k_isiLI {i : Int} (h : Q (.bl false) H) : rIsi K [.int i, .ty "list"] H Q := k_isi (.base (.int i)) (by decide +kernel) h
theorem k_isiI {i : Int} (h : Q (.bl true) H) : rIsi K [.int i, .ty "int"] H Q := k_isi (.base (.int i)) (by decide +kernel) h
theorem k_isiB {i : Int} (h : Q (.bl false) H) : rIsi K [.int i, .ty "bool"] H Q := k_isi (.base (.int i)) (by decide +kernel) h
theorem inV_ints (x : Int) : ∀ ns : List Int, inV (.int x) (ns.map V.int) = decide (x ∈ ns)
  | [] => rfl
  | n :: r => by
    show (eqV (.int n) (.int x) || inV (.int x) (r.map V.int)) = decide (x ∈ n :: r)
    rw [inV_ints x r]
    show ((n == x) || decide (x ∈ r)) = decide (x ∈ n :: r)
    by_cases h : n = x
    · subst h; simp
    · have : (n == x) = false := by simp [h]
      rw [this, Bool.false_or]
      have h' : ¬ x = n := fun e => h e.symm
      simp [h']
theorem flat_ints : ∀ ns : List Int, (ns.map V.int).all flatV = true
  | [] => rfl
  | _ :: r => by show (true && (r.map V.int).all flatV) = true; rw [flat_ints r]; rfl
theorem k_inI {p : Addr} {ns : List Int} {x : Int} (hs : SqL K H p (ns.map V.int)) (h : Q (.bl (decide (x ∈ ns))) H) : rIn K false (.int x) (.ref p) H Q :=
  ⟨p, _, rfl, .inl hs, rfl, flat_ints ns, by rw [if_neg Bool.false_ne_true, inV_ints]; exact h⟩
theorem k_notInI {p : Addr} {ns : List Int} {x : Int} (hs : SqL K H p (ns.map V.int)) (h : Q (.bl (!decide (x ∈ ns))) H) : rIn K true (.int x) (.ref p) H Q :=
  ⟨p, _, rfl, .inl hs, rfl, flat_ints ns, by rw [if_pos rfl, inV_ints]; exact h⟩
theorem k_intB {b : Bool} (h : Q (.int (if b then 1 else 0)) H) : rIntOf [.bl b] H Q := .inr ⟨b, rfl, h⟩
theorem at_int {ns : List Int} {i : Int} (h0 : 0 ≤ i) (h1 : i < ns.length) : atI (ns.map V.int) i = some (.int (ns.getD i.toNat 0)) := by
  obtain ⟨k, rfl⟩ : ∃ k : Nat, i = k := ⟨i.toNat, by omega⟩
  have h : k < ns.length := by omega
  refine atI_nat ?_
  rw [List.getElem?_map]
  simp [List.getElem?_eq_getElem h, List.getD_eq_getElem?_getD]
theorem k_ixI {p : Addr} {ns : List Int} {i : Int} (hs : SqL K H p (ns.map V.int)) (h0 : 0 ≤ i) (h1 : i < ns.length) (h : Q (.int (ns.getD i.toNat 0)) H) : rIxL K (.ref p) (.int i) H Q := k_ixL hs (at_int h0 h1) h
theorem k_eqD {x y : V} {c d : PyData} {n : Nat} (hx : Dp K H x c) (hy : Dp K H y d) (h1 : Sh n c) (h2 : Sh n d) (hn : n ≤ 64) (h : Q (.bl (PyData.eqv c d)) H) : rEqD K x y H Q := ⟨c, d, hx, hy, h1.shaped hn, h2.shaped hn, h⟩
theorem k_neD {x y : V} {c d : PyData} {n : Nat} (hx : Dp K H x c) (hy : Dp K H y d) (h1 : Sh n c) (h2 : Sh n d) (hn : n ≤ 64) (h : Q (.bl (!PyData.eqv c d)) H) : rNeD K x y H Q := ⟨c, d, hx, hy, h1.shaped hn, h2.shaped hn, h⟩
theorem k_neD0 {x y : V} {c : PyData} {n : Nat} (hx : Dp K H x c) (hy : Dp K H y c) (h1 : Sh n c) (hn : n ≤ 64) (h : Q (.bl false) H) : rNeD K x y H Q := k_neD hx hy h1 h1 hn (by rw [h1.refl]; exact h)
theorem k_eqD1 {x y : V} {c : PyData} {n : Nat} (hx : Dp K H x c) (hy : Dp K H y c) (h1 : Sh n c) (hn : n ≤ 64) (h : Q (.bl true) H) : rEqD K x y H Q := k_eqD hx hy h1 h1 hn (by rw [h1.refl]; exact h)
theorem k_getI {p : Addr} {ns : List Int} {i : Int} (hs : SqL K H p (ns.map V.int)) (h0 : 0 ≤ i) (h1 : i < ns.length) (h : Q (.int (ns.getD i.toNat 0)) H) : rGetL K (.ref p) (.int i) H Q := ⟨p, _, i, _, rfl, rfl, hs, h0, at_int h0 h1, h⟩
theorem k_setI {p : Addr} {ns : List Int} {k v : Int} {QH : Hp → Prop} (hp : H p = some (.lst (ns.map V.int))) (h0 : 0 ≤ k) (h1 : k < ns.length) (h : QH (upd H p (.lst ((ns.set k.toNat v).map V.int)))) : rSetL (.ref p) (.int k) (.int v) H QH :=
  ⟨p, _, k, k.toNat, rfl, rfl, hp, ixN_of h0 (by rw [List.length_map]; exact h1), by rw [List.map_set] at h; exact h⟩
theorem k_rep {p : Addr} {xs : List V} {k : Int} (hp : H p = some (.lst xs)) (h0 : 0 ≤ k) (h1 : k < 100000) (h2 : xs.length * k.toNat ≤ 100000) (h : ∀ l, H l = none → Q (.ref l) (upd H l (.lst (List.replicate k.toNat xs).flatten))) : rRep (.ref p) (.int k) H Q := ⟨p, k, xs, rfl, rfl, hp, by omega, by omega, sz h2, h⟩
theorem k_eqB {a b : Bool} (h : Q (.bl (decide (a = b))) H) : rEq (.bl a) (.bl b) H Q := ⟨rfl, by
  have e : decide (V.bl a = V.bl b) = decide (a = b) := by cases a <;> cases b <;> decide
  rw [e]; exact h⟩
theorem k_neB {a b : Bool} (h : Q (.bl (!decide (a = b))) H) : rNe (.bl a) (.bl b) H Q := ⟨rfl, by
  have e : decide (V.bl a = V.bl b) = decide (a = b) := by cases a <;> cases b <;> decide
  rw [e]; exact h⟩
/-- new objects, the heap behind as a letter -/
theorem k_newL {xs : List V} (hn : xs.length ≤ 100000) (h : ∀ p H', H p = none → Same H H' → H' p = some (.lst xs) → Q (.ref p) H') : xs.length ≤ sizeLine ∧ ∀ p, H p = none → Q (.ref p) (upd H p (.lst xs)) :=
  ⟨sz hn, fun p np => h p _ np (same_new np) upd_same⟩
theorem k_newT {xs : List V} (hn : xs.length ≤ 100000) (h : ∀ p H', H p = none → Same H H' → H' p = some (.tup xs) → Q (.ref p) H') : xs.length ≤ sizeLine ∧ ∀ p, H p = none → Q (.ref p) (upd H p (.tup xs)) :=
  ⟨sz hn, fun p np => h p _ np (same_new np) upd_same⟩
theorem k_listN {p : Addr} {ys : List V} (hs : SqL K H p ys) (h : ∀ l H', H l = none → Same H H' → H' l = some (.lst ys) → Q (.ref l) H') : rListOf K [.ref p] H Q := k_list hs fun l nl => h l _ nl (same_new nl) upd_same
theorem k_slL {a : Addr} {xs : List V} {lo hi : Option Int} (hs : SqL K H a xs) (h : ∀ p H', H p = none → Same H H' → H' p = some (.lst (cutV xs lo hi)) → Q (.ref p) H') : rSlL K (.ref a) lo hi H Q := ⟨a, xs, rfl, hs, fun p np => h p _ np (same_new np) upd_same⟩
theorem k_sl {r : V → Option Int → Option Int → Hp → VK → Prop} {tl th : TO} (h : te σ H fun x H1 => tl σ H1 fun l H2 => th σ H2 fun u H3 => r x l u H3 Q) : tSl r te tl th σ H Q := h
theorem k_nopart {QO : Option Int → Hp → Prop} (h : QO none H) : tNoPart σ H QO := h
theorem k_part {QO : Option Int → Hp → Prop} (h : te σ H fun x H1 => ∃ i, x = .int i ∧ QO (some i) H1) : tPart te σ H QO := h
theorem k_int {i : Int} {R : Int → Prop} (h : R i) : ∃ j, V.int i = .int j ∧ R j := ⟨i, rfl, h⟩
theorem rg_ints (a b : Int) : rgV a b = ((List.range (b - a).toNat).map fun i => a + (i : Nat)).map V.int := by
  unfold rgV; rw [List.map_map]; rfl
theorem k_listRg {tg : L2.St → Hp → (Int → Int → Hp → Prop) → Prop} (h : tg σ H fun a b H1 => RgOk a b ∧ ∀ q, H1 q = none → Q (.ref q) (upd H1 q (.lst (rgV a b)))) : tLstRg tg σ H Q := h
theorem k_rg1 {QR : Int → Int → Hp → Prop} (h : ta σ H fun x H1 => ∃ n, x = .int n ∧ QR 0 n H1) : tRg1 ta σ H QR := h
theorem k_rg2 {QR : Int → Int → Hp → Prop} (h : ta σ H fun x H1 => tb σ H1 fun y H2 => ∃ i j, x = .int i ∧ y = .int j ∧ QR i j H2) : tRg2 ta tb σ H QR := h
theorem k_int2 {i j : Int} {R : Int → Int → Prop} (h : R i j) : ∃ i' j', V.int i = .int i' ∧ V.int j = .int j' ∧ R i' j' := ⟨i, j, rfl, rfl, h⟩
theorem k_rgN {a b : Int} (hr : RgOk a b) (h : ∀ p H', H p = none → Same H H' → H' p = some (.lst (rgV a b)) → Q (.ref p) H') : RgOk a b ∧ ∀ q, H q = none → Q (.ref q) (upd H q (.lst (rgV a b))) := ⟨hr, fun q nq => h q _ nq (same_new nq) upd_same⟩
theorem dp_of_int {i j : Int} (e : i = j) : Dp K H (.int i) (.int j) := e ▸ .int i
end
/-! ### heaps with some places out of sight -/
def hid (S : List Addr) (H : Hp) : Hp := fun b => if b ∈ S then none else H b
theorem hid_ne {S : List Addr} {H : Hp} {b : Addr} (h : b ∉ S) : hid S H b = H b := if_neg h
theorem hid_in {S : List Addr} {H : Hp} {b : Addr} (h : b ∈ S) : hid S H b = none := if_pos h
theorem hid_some {S : List Addr} {H : Hp} {b : Addr} {o : HO} (h : hid S H b = some o) : b ∉ S ∧ H b = some o := by
  unfold hid at h
  split at h
  · cases h
  · exact ⟨by assumption, h⟩
theorem hid_same (S : List Addr) (H : Hp) : Same (hid S H) H := fun b o h => (hid_some h).2
theorem hid_mono {S : List Addr} {H H' : Hp} (e : Same H H') : Same (hid S H) (hid S H') := fun b o h => by
  obtain ⟨n, h⟩ := hid_some h
  rw [hid_ne n]
  exact e b o h
theorem hid_sub {S S' : List Addr} {H : Hp} (h : ∀ a ∈ S, a ∈ S') : Same (hid S' H) (hid S H) := fun b o e => by
  obtain ⟨n, e⟩ := hid_some e
  rw [hid_ne fun z => n (h b z)]
  exact e
/-- a change at a hidden place -/
theorem hid_upd {S : List Addr} {H : Hp} {p : Addr} {o : HO} (h : p ∈ S) : hid S (upd H p o) = hid S H := by
  funext b
  unfold hid
  split
  · rfl
  · rename_i n
    rw [upd_ne fun e => n (by rw [e]; exact h)]
theorem same_hid_upd {S : List Addr} {H0 H : Hp} {p : Addr} {o : HO} (e : Same H0 (hid S H)) (h : p ∈ S) : Same H0 (hid S (upd H p o)) := by rw [hid_upd h]; exact e
/-- what the law's data says stays when a fresh object is changed -/
theorem same_hid_mut {S : List Addr} {H0 H : Hp} {p : Addr} {o : HO} (e : Same H0 (hid S H)) (h : H0 p = none) : Same H0 (hid S (upd H p o)) := fun b u hb => by
  have := e b u hb
  obtain ⟨n, q⟩ := hid_some this
  rw [hid_ne n, upd_ne (ne_of_none hb h)]
  exact q
theorem hid_more {S S' : List Addr} {H H' : Hp} (e : Same (hid S H) (hid S H')) (h : ∀ a ∈ S, a ∈ S') : Same (hid S' H) (hid S' H') := fun b o hb => by
  obtain ⟨n, q⟩ := hid_some hb
  have n' : b ∉ S := fun z => n (h b z)
  have := e b o (by rw [hid_ne n']; exact q)
  rw [hid_ne n'] at this
  rw [hid_ne n]
  exact this
theorem same_hid_new {S : List Addr} {H : Hp} {p : Addr} {o : HO} (h : H p = none) : Same (hid S H) (hid S (upd H p o)) := hid_mono (same_new h)

theorem same_of_hid {S : List Addr} {H0 H1 H2 : Hp} (h : Same H0 H1) (f : ∀ a ∈ S, H0 a = none) (e : Same (hid S H1) (hid S H2)) : Same H0 H2 := fun b o hb => by
  have n : b ∉ S := fun z => by rw [f b z] at hb; cases hb
  have := e b o (by rw [hid_ne n]; exact h b o hb)
  rw [hid_ne n] at this
  exact this
theorem free1 {H0 : Hp} {p : Addr} (h : H0 p = none) : ∀ a ∈ [p], H0 a = none := fun a z => by rw [List.mem_singleton.mp z]; exact h
theorem cutTo {ns : List Int} (k : Nat) : cutV (ns.map V.int) none (some (k : Int)) = (ns.take k).map V.int := by
  unfold cutV
  rw [HT.sIx_none, HT.sIx_nat, List.drop_zero, List.length_map, Nat.sub_zero, List.map_take]
  by_cases h : k ≤ ns.length
  · rw [Nat.min_eq_left h]
  · rw [Nat.min_eq_right (by omega), List.take_of_length_le (by simp), List.take_of_length_le (by simp; omega)]
/-! ### the law's purse: a list of the cells and the turn -/
structure Pu (H : Hp) (pu ce : Addr) (n : Nat) (t : Int) : Prop where
  hp : H pu = some (.lst [.ref ce, .int t])
  hc : ∃ cs : List Int, cs.length = n ∧ H ce = some (.lst (cs.map V.int))
  n0 : 0 < n
  n1 : n ≤ 63
  t0 : 0 ≤ t
theorem Pu.ne {H : Hp} {pu ce : Addr} {n : Nat} {t : Int} (h : Pu H pu ce n t) : pu ≠ ce := fun e => by
  obtain ⟨cs, hl, hc⟩ := h.hc
  have hp := h.hp
  rw [e, hc] at hp
  cases cs with
  | nil => injection hp with hp; injection hp with hp; cases hp
  | cons x r => injection hp with hp; injection hp with hp; injection hp with h1 h2; cases h1
theorem Pu.fresh {H : Hp} {pu ce : Addr} {n : Nat} {t : Int} (h : Pu H pu ce n t) {p : Addr} (np : H p = none) : p ∉ [pu, ce] := fun z => by
  obtain ⟨cs, hl, hc⟩ := h.hc
  rcases List.mem_cons.mp z with rfl | z
  · rw [h.hp] at np; cases np
  · rcases List.mem_cons.mp z with rfl | z
    · rw [hc] at np; cases np
    · cases z
theorem Pu.upd {H : Hp} {pu ce : Addr} {n : Nat} {t : Int} (h : Pu H pu ce n t) {p : Addr} {o : HO} (np : p ∉ [pu, ce]) : Pu (upd H p o) pu ce n t := by
  have h1 : pu ≠ p := fun e => np (by rw [e]; exact List.mem_cons_self)
  have h2 : ce ≠ p := fun e => np (by rw [e]; exact List.mem_cons_of_mem _ List.mem_cons_self)
  obtain ⟨cs, hl, hc⟩ := h.hc
  exact ⟨by rw [upd_ne h1]; exact h.hp, ⟨cs, hl, by rw [upd_ne h2]; exact hc⟩, h.n0, h.n1, h.t0⟩
theorem Pu.same {H H' : Hp} {pu ce : Addr} {n : Nat} {t : Int} (h : Pu H pu ce n t) (e : Same H H') : Pu H' pu ce n t := by
  obtain ⟨cs, hl, hc⟩ := h.hc
  exact ⟨e _ _ h.hp, ⟨cs, hl, e _ _ hc⟩, h.n0, h.n1, h.t0⟩
/-- an object that is none of the purse's stays as it is -/
theorem keeps {S : List Addr} {H H' : Hp} (e : Same (hid S H) (hid S H')) {b : Addr} {o : HO} (hb : H b = some o) (n : b ∉ S) : H' b = some o := by
  have := e b o (by rw [hid_ne n]; exact hb)
  rw [hid_ne n] at this
  exact this
theorem fresh_hid {S : List Addr} {H H' : Hp} (e : Same (hid S H) (hid S H')) {b : Addr} (hb : H' b = none) (n : b ∉ S) : H b = none := by
  have := e.free (l := b) (by rw [hid_ne n]; exact hb)
  rw [hid_ne n] at this
  exact this
theorem getD_set_len {α : Type} (l : List α) (i : Nat) (v : α) : (l.set i v).length = l.length := List.length_set
theorem map_set_int (cs : List Int) (i : Nat) (v : Int) : (cs.map V.int).set i (.int v) = (cs.set i v).map V.int := by rw [List.map_set]

/-! ### the law's other purse: [a number, a mark, how many were drawn] -/
structure Le (H : Hp) (pu : Addr) (k : Int) : Prop where
  hp : ∃ x f : Int, H pu = some (.lst [.int x, .int f, .int k]) ∧ (f = 0 → 0 ≤ x ∧ x < 2147483629)
  k0 : 0 ≤ k
theorem Le.fresh {H : Hp} {pu : Addr} {k : Int} (h : Le H pu k) {p : Addr} (np : H p = none) : p ∉ [pu] := fun z => by
  obtain ⟨x, f, hp, _⟩ := h.hp
  rw [List.mem_singleton.mp z, hp] at np
  cases np
theorem Le.upd {H : Hp} {pu : Addr} {k : Int} (h : Le H pu k) {p : Addr} {o : HO} (np : p ∉ [pu]) : Le (upd H p o) pu k := by
  obtain ⟨x, f, hp, hx⟩ := h.hp
  exact ⟨⟨x, f, by rw [upd_ne fun e => np (by rw [e]; exact List.mem_singleton.mpr rfl)]; exact hp, hx⟩, h.k0⟩
theorem Le.same {H H' : Hp} {pu : Addr} {k : Int} (h : Le H pu k) (e : Same H H') : Le H' pu k := by
  obtain ⟨x, f, hp, hx⟩ := h.hp
  exact ⟨⟨x, f, e _ _ hp, hx⟩, h.k0⟩

/-! ### comprehensions whose block leaves the heap as it is -/
section
variable {K : PySem.W.Frag} {σ : L2.St} {H1 : Hp} {Q : VK} {g : TG} {tt : TT} {te : TE} {vs : List Nat}
theorem k_lc {wi : TI} (h : wi σ H1 fun J H1 => ∀ D, H1 D = none → ∃ W : Nat → Nat → Hp → Prop, (∃ m, W 0 m (upd H1 D (.lst []))) ∧ ∀ i m H, W i m H →
  (J.stop i H ∧ Q (.ref D) H) ∨ (J.go i H ∧ ∃ Nx : Hp → Prop, (∀ H', Nx H' → ∃ m', m' < m ∧ W (i + 1) m' H') ∧ ∀ x H', J.yld i H x H' → g x (wipe σ vs) H' fun σ2 H2 => wipe σ2 vs = wipe σ vs ∧ tt σ2 H2 fun b H3 =>
    if b = true then te σ2 H3 fun y H4 => ∃ acc, H4 D = some (.lst acc) ∧ acc.length < sizeLine ∧ Nx (upd H4 D (.lst (acc ++ [y]))) else Nx H3)) : tLc wi g tt te vs σ H1 Q := h
theorem k_wipe {σ' : L2.St} {R : Prop} (e : wipe σ' vs = wipe σ vs) (h : R) : wipe σ' vs = wipe σ vs ∧ R := ⟨e, h⟩
theorem k_yes {QT : Bool → Hp → Prop} (h : QT true H1) : tYes σ H1 QT := h
theorem take_filterMap {α β : Type} {f : α → Option β} {ps : List α} {i : Nat} {p : α} (h : ps[i]? = some p) : (ps.take (i + 1)).filterMap f = (ps.take i).filterMap f ++ (f p).toList := by
  rw [List.take_add_one, h, List.filterMap_append]
  simp [List.filterMap_cons]
  cases f p <;> rfl
/-- over a list of which ps tells the items -/
theorem lc_pure {QD : Addr → Hp → Prop} {α : Type} {a : Addr} {xs : List V} (hs : SqL K H1 a xs) (ps : List α) (hl : xs.length = ps.length) (hz : ps.length ≤ 50000) (f : α → Option V)
    (step : ∀ (i : Nat) x p H', xs[i]? = some x → ps[i]? = some p → Same H1 H' → ∀ (R : V → Hp → Prop) (R0 : Hp → Prop), (∀ y, f p = some y → R y H') → (f p = none → R0 H') →
      g x (wipe σ vs) H' fun σ2 H2 => wipe σ2 vs = wipe σ vs ∧ tt σ2 H2 fun b H3 => if b = true then te σ2 H3 R else R0 H3)
    (h : ∀ D H', H1 D = none → Same H1 H' → H' D = some (.lst (ps.filterMap f)) → QD D H') :
    ∃ a', V.ref a = .ref a' ∧ (∃ xs, SqL K H1 a' xs) ∧ ∀ D, H1 D = none → ∃ W : Nat → Nat → Hp → Prop, (∃ m, W 0 m (upd H1 D (.lst []))) ∧ ∀ i m H, W i m H →
      ((Itl K a').stop i H ∧ QD D H) ∨ ((Itl K a').go i H ∧ ∃ Nx : Hp → Prop, (∀ H', Nx H' → ∃ m', m' < m ∧ W (i + 1) m' H') ∧ ∀ x H', (Itl K a').yld i H x H' → g x (wipe σ vs) H' fun σ2 H2 => wipe σ2 vs = wipe σ vs ∧ tt σ2 H2 fun b H3 =>
        if b = true then te σ2 H3 fun y H4 => ∃ acc, H4 D = some (.lst acc) ∧ acc.length < sizeLine ∧ Nx (upd H4 D (.lst (acc ++ [y]))) else Nx H3) := by
  refine ⟨a, rfl, ⟨xs, hs⟩, fun D nD => lc_list (xs := xs) (fun i H => Same H1 H ∧ H D = some (.lst ((ps.take i).filterMap f))) ⟨same_new nD, by rw [upd_same]; simp⟩ (fun i H _ e => e.1.seq hs) ?_ ?_⟩
  · rintro i x H hx ⟨sm, hD⟩
    have hi : i < xs.length := (List.getElem?_eq_some_iff.mp hx).1
    obtain ⟨p, hp⟩ : ∃ p, ps[i]? = some p := ⟨ps[i]'(by omega), List.getElem?_eq_getElem (by omega)⟩
    have tk := take_filterMap (f := f) hp
    refine step i x p H hx hp sm _ _ (fun y hy => ⟨_, hD, szl ?_, same_mut sm nD, ?_⟩) (fun hn => ⟨sm, ?_⟩)
    · have := List.length_filterMap_le f (ps.take i)
      rw [List.length_take] at this
      omega
    · rw [upd_same, tk, hy]; rfl
    · rw [tk, hn, hD]; simp
  · rintro H ⟨sm, hD⟩
    rw [hl, List.take_length] at hD
    exact h D H nD sm hD
/-- the same where a turn may make new objects -/
theorem lc_grow {QD : Addr → Hp → Prop} {α : Type} {a : Addr} {xs : List V} (hs : SqL K H1 a xs) (ps : List α) (hl : xs.length = ps.length) (hz : ps.length ≤ 50000) (f : α → Option V)
    (step : ∀ (i : Nat) x p H', xs[i]? = some x → ps[i]? = some p → Same H1 H' → ∀ (R : V → Hp → Prop) (R0 : Hp → Prop), (∀ y H'', f p = some y → Same H' H'' → R y H'') → (∀ H'', f p = none → Same H' H'' → R0 H'') →
      g x (wipe σ vs) H' fun σ2 H2 => wipe σ2 vs = wipe σ vs ∧ tt σ2 H2 fun b H3 => if b = true then te σ2 H3 R else R0 H3)
    (h : ∀ D H', H1 D = none → Same H1 H' → H' D = some (.lst (ps.filterMap f)) → QD D H') :
    ∃ a', V.ref a = .ref a' ∧ (∃ xs, SqL K H1 a' xs) ∧ ∀ D, H1 D = none → ∃ W : Nat → Nat → Hp → Prop, (∃ m, W 0 m (upd H1 D (.lst []))) ∧ ∀ i m H, W i m H →
      ((Itl K a').stop i H ∧ QD D H) ∨ ((Itl K a').go i H ∧ ∃ Nx : Hp → Prop, (∀ H', Nx H' → ∃ m', m' < m ∧ W (i + 1) m' H') ∧ ∀ x H', (Itl K a').yld i H x H' → g x (wipe σ vs) H' fun σ2 H2 => wipe σ2 vs = wipe σ vs ∧ tt σ2 H2 fun b H3 =>
        if b = true then te σ2 H3 fun y H4 => ∃ acc, H4 D = some (.lst acc) ∧ acc.length < sizeLine ∧ Nx (upd H4 D (.lst (acc ++ [y]))) else Nx H3) := by
  refine ⟨a, rfl, ⟨xs, hs⟩, fun D nD => lc_list (xs := xs) (fun i H => Same H1 H ∧ H D = some (.lst ((ps.take i).filterMap f))) ⟨same_new nD, by rw [upd_same]; simp⟩ (fun i H _ e => e.1.seq hs) ?_ ?_⟩
  · rintro i x H hx ⟨sm, hD⟩
    have hi : i < xs.length := (List.getElem?_eq_some_iff.mp hx).1
    obtain ⟨p, hp⟩ : ∃ p, ps[i]? = some p := ⟨ps[i]'(by omega), List.getElem?_eq_getElem (by omega)⟩
    have tk := take_filterMap (f := f) hp
    refine step i x p H hx hp sm _ _ (fun y H'' hy s2 => ⟨_, s2 _ _ hD, szl ?_, same_mut (sm.trans s2) nD, ?_⟩) (fun H'' hn s2 => ⟨sm.trans s2, ?_⟩)
    · have := List.length_filterMap_le f (ps.take i)
      rw [List.length_take] at this
      omega
    · rw [upd_same, tk, hy]; rfl
    · rw [tk, hn, s2 _ _ hD]; simp
  · rintro H ⟨sm, hD⟩
    rw [hl, List.take_length] at hD
    exact h D H nD sm hD
theorem range_take {n i : Nat} (h : i < n) : (List.range n)[i]? = some i := by simp [h]
/-- over a range -/
theorem lc_pureR {QD : Addr → Hp → Prop} {lo : Int} {n : Nat} (hz : n ≤ 50000) (f : Nat → Option V)
    (step : ∀ (i : Nat) H', i < n → Same H1 H' → ∀ (R : V → Hp → Prop) (R0 : Hp → Prop), (∀ y, f i = some y → R y H') → (f i = none → R0 H') →
      g (.int (lo + (i : Nat))) (wipe σ vs) H' fun σ2 H2 => wipe σ2 vs = wipe σ vs ∧ tt σ2 H2 fun b H3 => if b = true then te σ2 H3 R else R0 H3)
    (h : ∀ D H', H1 D = none → Same H1 H' → H' D = some (.lst ((List.range n).filterMap f)) → QD D H') :
    ∀ D, H1 D = none → ∃ W : Nat → Nat → Hp → Prop, (∃ m, W 0 m (upd H1 D (.lst []))) ∧ ∀ i m H, W i m H →
      ((Itr lo n).stop i H ∧ QD D H) ∨ ((Itr lo n).go i H ∧ ∃ Nx : Hp → Prop, (∀ H', Nx H' → ∃ m', m' < m ∧ W (i + 1) m' H') ∧ ∀ x H', (Itr lo n).yld i H x H' → g x (wipe σ vs) H' fun σ2 H2 => wipe σ2 vs = wipe σ vs ∧ tt σ2 H2 fun b H3 =>
        if b = true then te σ2 H3 fun y H4 => ∃ acc, H4 D = some (.lst acc) ∧ acc.length < sizeLine ∧ Nx (upd H4 D (.lst (acc ++ [y]))) else Nx H3) := by
  refine fun D nD => lc_range (fun i H => Same H1 H ∧ H D = some (.lst (((List.range n).take i).filterMap f))) ⟨same_new nD, by rw [upd_same]; simp⟩ ?_ ?_
  · rintro i H hi ⟨sm, hD⟩
    have tk := take_filterMap (f := f) (range_take hi)
    refine step i H hi sm _ _ (fun y hy => ⟨_, hD, szl ?_, same_mut sm nD, ?_⟩) (fun hn => ⟨sm, ?_⟩)
    · have := List.length_filterMap_le f ((List.range n).take i)
      rw [List.length_take, List.length_range] at this
      omega
    · rw [upd_same, tk, hy]; rfl
    · rw [tk, hn, hD]; simp
  · rintro H ⟨sm, hD⟩
    rw [List.take_of_length_le (by simp)] at hD
    exact h D H nD sm hD
end
/-! ### min, max of a pair -/
def rMinT (K : PySem.W.Frag) : List V → Hp → VK → Prop := fun xs H Q => ∃ (p : Addr) (a b : Int), xs = [.ref p] ∧ SqT K H p [.int a, .int b] ∧ Q (.int (min a b)) H
def rMaxT (K : PySem.W.Frag) : List V → Hp → VK → Prop := fun xs H Q => ∃ (p : Addr) (a b : Int), xs = [.ref p] ∧ SqT K H p [.int a, .int b] ∧ Q (.int (max a b)) H
theorem reads_int {h : Heap} {v : Value} {n : Int} {as : List Addr} (r : Reads h v (.int n) as) : ∃ t, v = .int n t := by
  cases r; exact ⟨_, rfl⟩
theorem alike2 (a b : Int) : PySem.W.AlikeAll [.int a, .int b] := by
  refine ⟨fun x hx y hy => ?_, fun x hx => ?_⟩
  · simp only [List.mem_cons, List.not_mem_nil, or_false] at hx hy
    rcases hx with rfl | rfl <;> rcases hy with rfl | rfl <;> rfl
  · simp only [List.mem_cons, List.not_mem_nil, or_false] at hx
    rcases hx with rfl | rfl <;> (intro z; cases z)
theorem q_minT {X : Cx} (hc : X.calm = true) (hu : X.A.units + 64 < cLine) : CallR X (.builtin "min") (rMinT X.K) := by
  intro pins s σ H vs us Q I r h
  obtain ⟨p, a, b, rfl, hs, q⟩ := h
  obtain ⟨its, rv, hl, _⟩ := I.tuple hs
  rw [Vals.ref1 r]
  have ri : IntsAre its [a, b] := Vals.ints (ns := [a, b]) rv
  refine PySem.W.min_tuple_data (x := .int a) (xs := [.int b]) (as := []) (I.ok.hd hc) hl (ri.reads _) (alike2 a b) ?_ fun i v h' tk bs hi rd hk => ?_
  · have : PyData.depthAll [.int a, .int b] = 0 := rfl
    omega
  · rw [show PySem.W.minD (.int a) [.int b] = .int (min a b) from PySem.W.minD_ints a [b]] at rd
    obtain ⟨t, rfl⟩ := reads_int rd
    exact ⟨.int _, H, I.kept hk, ⟨_, rfl⟩, q⟩
theorem q_maxT {X : Cx} (hc : X.calm = true) (hu : X.A.units + 64 < cLine) : CallR X (.builtin "max") (rMaxT X.K) := by
  intro pins s σ H vs us Q I r h
  obtain ⟨p, a, b, rfl, hs, q⟩ := h
  obtain ⟨its, rv, hl, _⟩ := I.tuple hs
  rw [Vals.ref1 r]
  have ri : IntsAre its [a, b] := Vals.ints (ns := [a, b]) rv
  refine PySem.W.max_tuple_data (x := .int a) (xs := [.int b]) (as := []) (I.ok.hd hc) hl (ri.reads _) (alike2 a b) ?_ fun i v h' tk bs hi rd hk => ?_
  · have : PyData.depthAll [.int a, .int b] = 0 := rfl
    omega
  · rw [show PySem.W.maxD (.int a) [.int b] = .int (max a b) from PySem.W.maxD_ints a [b]] at rd
    obtain ⟨t, rfl⟩ := reads_int rd
    exact ⟨.int _, H, I.kept hk, ⟨_, rfl⟩, q⟩
theorem k_minT {K : PySem.W.Frag} {H : Hp} {Q : VK} {p : Addr} {a b : Int} (hs : SqT K H p [.int a, .int b]) (h : Q (.int (min a b)) H) : rMinT K [.ref p] H Q := ⟨p, a, b, rfl, hs, h⟩
theorem k_maxT {K : PySem.W.Frag} {H : Hp} {Q : VK} {p : Addr} {a b : Int} (hs : SqT K H p [.int a, .int b]) (h : Q (.int (max a b)) H) : rMaxT K [.ref p] H Q := ⟨p, a, b, rfl, hs, h⟩
end Cm

namespace Cm
open PySem PySem.Spec PyProof.Rows L2
/-! ### steps of a reading, found by instances -/
class Stp (p : Prop) (q : outParam Prop) : Prop where
  run : q → p
class Stps (p : Prop) (q : outParam Prop) : Prop where
  run : q → p
class Stps1 (p : Prop) (q : outParam Prop) : Prop where
  run : q → p
instance (priority := low) stps_nil {p : Prop} : Stps p p := ⟨id⟩
instance (priority := high) stps_cons {p q r : Prop} [a : Stp p q] [b : Stps q r] : Stps p r := ⟨fun h => a.run (b.run h)⟩
instance stps_one {p q r : Prop} [a : Stp p q] [b : Stps q r] : Stps1 p r := ⟨fun h => a.run (b.run h)⟩
theorem go {p q : Prop} [a : Stps1 p q] (h : q) : p := a.run h
class Slot (σ : L2.St) (i : Nat) (v : outParam V) : Prop where
  get : σ[i]? = some (some v)
instance {v : V} {r : L2.St} : Slot (some v :: r) 0 v := ⟨rfl⟩
instance {x : Option V} {v : V} {r : L2.St} {i : Nat} [a : Slot r i v] : Slot (x :: r) (i + 1) v := ⟨a.get⟩
class Put (σ : L2.St) (i : Nat) (v : Option V) (σ' : outParam L2.St) : Prop where
  eq : σ.set i v = σ'
instance {x v : Option V} {r : L2.St} : Put (x :: r) 0 v (v :: r) := ⟨rfl⟩
instance {x v : Option V} {r r' : L2.St} {i : Nat} [a : Put r i v r'] : Put (x :: r) (i + 1) v (x :: r') := ⟨by rw [List.set_cons_succ, a.eq]⟩
instance {σ σ0 σ' : L2.St} {j : Nat} {w : Option V} {i : Nat} {v : Option V} [a : Put σ j w σ0] [b : Put σ0 i v σ'] : Put (List.set σ j w) i v σ' := ⟨by rw [a.eq, b.eq]⟩
instance {σ σ0 : L2.St} {j : Nat} {w : Option V} {i : Nat} {v : V} [a : Put σ j w σ0] [b : Slot σ0 i v] : Slot (List.set σ j w) i v := ⟨by rw [a.eq, b.get]⟩
class Wip (σ : L2.St) (vs : List Nat) (σ' : outParam L2.St) : Prop where
  eq : wipe σ vs = σ'
instance {σ : L2.St} : Wip σ [] σ := ⟨rfl⟩
instance {σ σ' σ'' : L2.St} {i : Nat} {vs : List Nat} [b : Wip σ vs σ'] [a : Put σ' i none σ''] : Wip σ (i :: vs) σ'' := ⟨by
  show (wipe σ vs).set i none = σ''
  rw [b.eq, a.eq]⟩
instance {σ σ0 σ' : L2.St} {vs : List Nat} {i : Nat} {v : Option V} [a : Wip σ vs σ0] [b : Put σ0 i v σ'] : Put (wipe σ vs) i v σ' := ⟨by rw [a.eq, b.eq]⟩
/-- a new list, a new tuple -/
def newL (xs : List V) (H : Hp) (Q : VK) : Prop := xs.length ≤ sizeLine ∧ ∀ p, H p = none → Q (.ref p) (upd H p (.lst xs))
def newT (xs : List V) (H : Hp) (Q : VK) : Prop := xs.length ≤ sizeLine ∧ ∀ p, H p = none → Q (.ref p) (upd H p (.tup xs))
def newR (a b : Int) (H : Hp) (Q : VK) : Prop := RgOk a b ∧ ∀ q, H q = none → Q (.ref q) (upd H q (.lst (rgV a b)))
theorem kL {xs : List V} {H : Hp} {Q : VK} (hn : xs.length ≤ 100000) (h : ∀ p H', H p = none → Same H H' → H' p = some (.lst xs) → Q (.ref p) H') : newL xs H Q := ⟨sz hn, fun p np => h p _ np (same_new np) upd_same⟩
theorem kT {xs : List V} {H : Hp} {Q : VK} (hn : xs.length ≤ 100000) (h : ∀ p H', H p = none → Same H H' → H' p = some (.tup xs) → Q (.ref p) H') : newT xs H Q := ⟨sz hn, fun p np => h p _ np (same_new np) upd_same⟩
theorem kR {a b : Int} {H : Hp} {Q : VK} (hr : RgOk a b) (h : ∀ p H', H p = none → Same H H' → H' p = some (.lst (rgV a b)) → Q (.ref p) H') : newR a b H Q := ⟨hr, fun q nq => h q _ nq (same_new nq) upd_same⟩
section
variable {K : PySem.W.Frag} {σ σ' : L2.St} {H : Hp} {D : Ends} {Q : VK} {ta tb tc te to ti : TE} {t u : TT} {s1 s2 : TS} {QT : Bool → Hp → Prop} {QA : List V → Hp → Prop} {tr : TA} {QS : L2.St → Hp → Prop} {nx bk ct : L2.St → Hp → Prop} {rt : VK} {g : TG} {gs : TGs} {i j : Nat} {v w : V} {a b : Int} {wi : TI} {tS : TS}
instance : Stp (tSeq s1 s2 ⟨nx, rt, bk, ct⟩ σ H) (s1 ⟨s2 ⟨nx, rt, bk, ct⟩, rt, bk, ct⟩ σ H) := ⟨k_seq⟩
instance : Stp (tNext ⟨nx, rt, bk, ct⟩ σ H) (nx σ H) := ⟨k_next⟩
instance : Stp (tCont ⟨nx, rt, bk, ct⟩ σ H) (ct σ H) := ⟨k_cont⟩
instance : Stp (tBreak ⟨nx, rt, bk, ct⟩ σ H) (bk σ H) := ⟨k_brk⟩
instance : Stp (tAsg te g ⟨nx, rt, bk, ct⟩ σ H) (te σ H fun x H1 => g x σ H1 nx) := ⟨k_asg⟩
instance : Stp (tDrop te ⟨nx, rt, bk, ct⟩ σ H) (te σ H fun _ H1 => nx σ H1) := ⟨k_drop⟩
instance : Stp (tRet te ⟨nx, rt, bk, ct⟩ σ H) (te σ H rt) := ⟨k_ret⟩
instance : Stp (tRetN ⟨nx, rt, bk, ct⟩ σ H) (rt .non H) := ⟨k_retN⟩
instance {f : Int → Int → Int} [e : Slot σ i (.int a)] : Stp (tAug i te (ipI f) ⟨nx, rt, bk, ct⟩ σ H) (te σ H fun y H1 => ipI f (.int a) y H1 fun z H2 => gName i z σ H2 nx) := ⟨fun h => k_aug e.get h⟩
instance {f : Int → Int → Int} : Stp (ipI f (.int a) (.int b) H Q) (Q (.int (f a b)) H) := ⟨k_ipI⟩
instance : Stp (xAugL K to ti te ⟨nx, rt, bk, ct⟩ σ H) (to σ H fun o H1 => ti σ H1 fun i H2 => rGetL K o i H2 fun x H3 => te σ H3 fun y H4 => ipI (fun i j => i + j) x y H4 fun z H5 => rSetL o i z H5 fun H6 => nx σ H6) := ⟨k_augL⟩
instance : Stp (tIfS t s1 s2 D σ H) (t σ H fun b H1 => if b = true then s1 D σ H1 else s2 D σ H1) := ⟨k_if⟩
instance [e : Slot σ i v] : Stp (tVar i σ H Q) (Q v H) := ⟨fun h => k_var e.get h⟩
instance : Stp (tC v σ H Q) (Q v H) := ⟨k_c⟩
instance {r : R2} : Stp (tOp r ta tb σ H Q) (ta σ H fun x H1 => tb σ H1 fun y H2 => r x y H2 Q) := ⟨k_op⟩
instance {r : V → Hp → VK → Prop} : Stp (tUn r ta σ H Q) (ta σ H fun x H1 => r x H1 Q) := ⟨k_un⟩
instance : Stp (xAdd (.int a) (.int b) H Q) (Q (.int (a + b)) H) := ⟨k_add⟩
instance : Stp (xSub (.int a) (.int b) H Q) (Q (.int (a - b)) H) := ⟨k_sub⟩
instance : Stp (xLt (.int a) (.int b) H Q) (Q (.bl (decide (a < b))) H) := ⟨k_lt⟩
instance : Stp (xLe (.int a) (.int b) H Q) (Q (.bl (decide (a ≤ b))) H) := ⟨k_le⟩
instance : Stp (xGt (.int a) (.int b) H Q) (Q (.bl (decide (b < a))) H) := ⟨k_gt⟩
instance : Stp (xGe (.int a) (.int b) H Q) (Q (.bl (decide (b ≤ a))) H) := ⟨k_ge⟩
instance : Stp (xNeg (.int a) H Q) (Q (.int (-a)) H) := ⟨k_neg⟩
instance : Stp (rEq (.int a) (.int b) H Q) (Q (.bl (decide (a = b))) H) := ⟨k_eqI⟩
instance : Stp (rNe (.int a) (.int b) H Q) (Q (.bl (!decide (a = b))) H) := ⟨k_neI⟩
instance {a b : Bool} : Stp (rEq (.bl a) (.bl b) H Q) (Q (.bl (decide (a = b))) H) := ⟨k_eqB⟩
instance {a b : Bool} : Stp (rNe (.bl a) (.bl b) H Q) (Q (.bl (!decide (a = b))) H) := ⟨k_neB⟩
theorem k_eqNN (h : Q (.bl true) H) : rEq .non .non H Q := ⟨rfl, h⟩
theorem k_isN0 (h : Q (.bl true) H) : xIsN .non .non H Q := ⟨rfl, h⟩
theorem k_isNr {p : Addr} (h : Q (.bl false) H) : xIsN (.ref p) .non H Q := ⟨rfl, by rw [decide_eq_false (by intro z; cases z)]; exact h⟩
theorem k_isNi (h : Q (.bl false) H) : xIsN (.int a) .non H Q := ⟨rfl, by rw [decide_eq_false (by intro z; cases z)]; exact h⟩
theorem k_notN0 (h : Q (.bl false) H) : xNotN .non .non H Q := ⟨rfl, h⟩
theorem k_notNr {p : Addr} (h : Q (.bl true) H) : xNotN (.ref p) .non H Q := ⟨rfl, by rw [decide_eq_false (by intro z; cases z)]; exact h⟩
theorem k_notNi (h : Q (.bl true) H) : xNotN (.int a) .non H Q := ⟨rfl, by rw [decide_eq_false (by intro z; cases z)]; exact h⟩
instance : Stp (xIsN .non .non H Q) (Q (.bl true) H) := ⟨k_isN0⟩
instance {p : Addr} : Stp (xIsN (.ref p) .non H Q) (Q (.bl false) H) := ⟨k_isNr⟩
instance : Stp (xIsN (.int a) .non H Q) (Q (.bl false) H) := ⟨k_isNi⟩
instance : Stp (xNotN .non .non H Q) (Q (.bl false) H) := ⟨k_notN0⟩
instance {p : Addr} : Stp (xNotN (.ref p) .non H Q) (Q (.bl true) H) := ⟨k_notNr⟩
instance : Stp (xNotN (.int a) .non H Q) (Q (.bl true) H) := ⟨k_notNi⟩
instance : Stp (tTest te σ H QT) (te σ H fun x H1 => ∃ k, x = .bl k ∧ QT k H1) := ⟨k_test⟩
instance : Stp (tB te σ H QT) (te σ H fun x H1 => ∃ k, x = .bl k ∧ QT k H1) := ⟨k_B⟩
instance {b : Bool} {R : Bool → Prop} : Stp (∃ k, V.bl b = .bl k ∧ R k) (R b) := ⟨k_bl⟩
instance {R : Int → Prop} : Stp (∃ j, V.int a = .int j ∧ R j) (R a) := ⟨k_int⟩
instance {R : Int → Int → Prop} : Stp (∃ i' j', V.int a = .int i' ∧ V.int b = .int j' ∧ R i' j') (R a b) := ⟨k_int2⟩
instance : Stp (tAnd t u σ H QT) (t σ H fun c H1 => if c = true then u σ H1 QT else QT false H1) := ⟨k_and⟩
instance : Stp (tOr t u σ H QT) (t σ H fun c H1 => if c = true then QT true H1 else u σ H1 QT) := ⟨k_or⟩
instance : Stp (tNot t σ H QT) (t σ H fun c H1 => QT (!c) H1) := ⟨k_not⟩
instance : Stp (tNotV ta σ H Q) (ta σ H fun x H1 => ∃ c, x = .bl c ∧ Q (.bl (!c)) H1) := ⟨k_notV⟩
instance : Stp (tAndV ta tb σ H Q) (ta σ H fun x H1 => ∃ c, x = .bl c ∧ if c = true then tb σ H1 Q else Q (.bl false) H1) := ⟨k_andV⟩
instance : Stp (tOrV ta tb σ H Q) (ta σ H fun x H1 => ∃ c, x = .bl c ∧ if c = true then Q (.bl true) H1 else tb σ H1 Q) := ⟨k_orV⟩
instance {r : List V → Hp → VK → Prop} : Stp (tCB r tr σ H Q) (tr σ H fun vs H1 => r vs H1 Q) := ⟨k_cb⟩
instance : Stp (tNil σ H QA) (QA [] H) := ⟨k_nil⟩
instance : Stp (tCons ta tr σ H QA) (ta σ H fun x H1 => tr σ H1 fun xs H2 => QA (x :: xs) H2) := ⟨k_cons⟩
instance {sp : Sp} {E : XK} : Stp (tCall sp [] E tr σ H Q) (tr σ H fun vs H1 => sp vs H1 Q E) := ⟨fun h => k_call (by simpa only [List.append_nil] using h)⟩
instance : Stp (tLst tr σ H Q) (tr σ H fun xs H1 => newL xs H1 Q) := ⟨k_lst⟩
instance : Stp (tTup tr σ H Q) (tr σ H fun xs H1 => newT xs H1 Q) := ⟨k_tup⟩
instance {r : List V} : Stp (gCons g gs (v :: r) σ H QS) (g v σ H fun σ' H' => gs r σ' H' QS) := ⟨k_gcons⟩
instance : Stp (gNil [] σ H QS) (QS σ H) := ⟨k_gnil⟩
instance [e : Put σ i (some v) σ'] : Stp (gName i v σ H QS) (QS σ' H) := ⟨fun h => k_gname (by rw [e.eq]; exact h)⟩
instance {ts : TSet} : Stp (gSub to ti ts v σ H QS) (to σ H fun o H1 => ti σ H1 fun i H2 => ts o i v H2 fun H3 => QS σ H3) := ⟨k_gsub⟩
instance : Stp (rMax2 [.int a, .int b] H Q) (Q (.int (if b > a then b else a)) H) := ⟨k_max2⟩
instance : Stp (rMin2 [.int a, .int b] H Q) (Q (.int (if b < a then b else a)) H) := ⟨k_min2⟩
instance {T : String} {r : V → List V → Hp → VK → Prop} : Stp (tBM K T r ta tr σ H Q) (ta σ H fun x H1 => tyV K T x H1 ∧ tr σ H1 fun xs H2 => r x xs H2 Q) := ⟨k_bm⟩
instance {T : String} {r : V → List V → Hp → VK → Prop} : Stp (tBM0 K T r ta σ H Q) (ta σ H fun x H1 => tyV K T x H1 ∧ r x [] H1 Q) := ⟨k_bm0⟩
instance {A B : Prop} {i : Decidable (true = true)} : Stp (@ite Prop (true = true) i A B) A := ⟨fun h => by rw [if_pos rfl]; exact h⟩
instance {A B : Prop} {i : Decidable (false = true)} : Stp (@ite Prop (false = true) i A B) B := ⟨fun h => by rw [if_neg (by simp)]; exact h⟩
instance {A B : Prop} {i : Decidable ((!true) = true)} : Stp (@ite Prop ((!true) = true) i A B) B := ⟨fun h => by rw [if_neg (by simp)]; exact h⟩
instance {A B : Prop} {i : Decidable ((!false) = true)} : Stp (@ite Prop ((!false) = true) i A B) A := ⟨fun h => by rw [if_pos (by simp)]; exact h⟩
instance : Stp (tFor wi g tS ⟨nx, rt, bk, ct⟩ σ H) (wi σ H fun J H1 => ∃ W : Nat → Nat → L2.St → Hp → Prop, (∃ m, W 0 m σ H1) ∧ ∀ i m σ H, W i m σ H →
  (J.stop i H ∧ nx σ H) ∨ (J.go i H ∧ ∃ N : L2.St → Hp → Prop, (∀ σ' H', N σ' H' → ∃ m', m' < m ∧ W (i + 1) m' σ' H') ∧ ∀ x H', J.yld i H x H' → g x σ H' fun σ2 H2 => tS ⟨N, rt, nx, N⟩ σ2 H2)) := ⟨k_for⟩
instance {R : It → Hp → Prop} : Stp (iList K te σ H R) (te σ H fun x H1 => ∃ a, x = .ref a ∧ (∃ xs, SqL K H1 a xs) ∧ R (Itl K a) H1) := ⟨k_iList⟩
instance {R : It → Hp → Prop} : Stp (iTup K te σ H R) (te σ H fun x H1 => ∃ a, x = .ref a ∧ (∃ xs, SqT K H1 a xs) ∧ R (Itt K a) H1) := ⟨k_iTup⟩
instance {R : It → Hp → Prop} : Stp (iZip K tr σ H R) (tr σ H fun vs H1 => ∃ a b xs ys, vs = [.ref a, .ref b] ∧ SqL K H1 a xs ∧ SqL K H1 b ys ∧ R (Itz K a b) H1) := ⟨k_iZip⟩
instance {R : It → Hp → Prop} : Stp (iEnum K tr σ H R) (tr σ H fun vs H1 => ∃ a xs, vs = [.ref a] ∧ SqL K H1 a xs ∧ R (Ite K a) H1) := ⟨k_iEnum⟩
instance {R : It → Hp → Prop} : Stp (iRng1 tr σ H R) (tr σ H fun vs H1 => ∃ j : Int, vs = [.int j] ∧ -(2 ^ 62) ≤ j ∧ j < 2 ^ 62 ∧ R (Itr 0 j.toNat) H1) := ⟨k_iRng1⟩
instance {R : It → Hp → Prop} : Stp (iRng2 tr σ H R) (tr σ H fun vs H1 => ∃ i j : Int, vs = [.int i, .int j] ∧ (-(2 ^ 62) ≤ i ∧ i < 2 ^ 62 ∧ -(2 ^ 62) ≤ j ∧ j < 2 ^ 62) ∧ R (Itr i (j - i).toNat) H1) := ⟨k_iRng2⟩
instance {vs : List Nat} : Stp (tLc wi g t te vs σ H Q) (wi σ H fun J H1 => ∀ D, H1 D = none → ∃ W : Nat → Nat → Hp → Prop, (∃ m, W 0 m (upd H1 D (.lst []))) ∧ ∀ i m H, W i m H →
  (J.stop i H ∧ Q (.ref D) H) ∨ (J.go i H ∧ ∃ Nx : Hp → Prop, (∀ H', Nx H' → ∃ m', m' < m ∧ W (i + 1) m' H') ∧ ∀ x H', J.yld i H x H' → g x (wipe σ vs) H' fun σ2 H2 => wipe σ2 vs = wipe σ vs ∧ t σ2 H2 fun b H3 =>
    if b = true then te σ2 H3 fun y H4 => ∃ acc, H4 D = some (.lst acc) ∧ acc.length < sizeLine ∧ Nx (upd H4 D (.lst (acc ++ [y]))) else Nx H3)) := ⟨k_lc⟩
instance : Stp (tYes σ H QT) (QT true H) := ⟨k_yes⟩
instance {r : V → Option Int → Option Int → Hp → VK → Prop} {tl th : TO} : Stp (tSl r te tl th σ H Q) (te σ H fun x H1 => tl σ H1 fun l H2 => th σ H2 fun u H3 => r x l u H3 Q) := ⟨k_sl⟩
instance {QO : Option Int → Hp → Prop} : Stp (tNoPart σ H QO) (QO none H) := ⟨k_nopart⟩
instance {QO : Option Int → Hp → Prop} : Stp (tPart te σ H QO) (te σ H fun x H1 => ∃ i, x = .int i ∧ QO (some i) H1) := ⟨k_part⟩
instance {tg : L2.St → Hp → (Int → Int → Hp → Prop) → Prop} : Stp (tLstRg tg σ H Q) (tg σ H fun a b H1 => newR a b H1 Q) := ⟨k_listRg⟩
instance {QR : Int → Int → Hp → Prop} : Stp (tRg1 ta σ H QR) (ta σ H fun x H1 => ∃ n, x = .int n ∧ QR 0 n H1) := ⟨k_rg1⟩
instance {QR : Int → Int → Hp → Prop} : Stp (tRg2 ta tb σ H QR) (ta σ H fun x H1 => tb σ H1 fun y H2 => ∃ i j, x = .int i ∧ y = .int j ∧ QR i j H2) := ⟨k_rg2⟩
instance : Stp (rIsi K [.int a, .ty "int"] H Q) (Q (.bl true) H) := ⟨k_isiI⟩
instance : Stp (rIsi K [.int a, .ty "bool"] H Q) (Q (.bl false) H) := ⟨k_isiB⟩
instance : Stp (rIsi K [.int a, .ty "list"] H Q) (Q (.bl false) H) := ⟨k_isiLI⟩
instance {b : Bool} : Stp (rIntOf [.bl b] H Q) (Q (.int (if b then 1 else 0)) H) := ⟨k_intB⟩
theorem k_chain {r r' : R2} (h : ta σ H fun x H1 => tb σ H1 fun y H2 => r x y H2 fun z H3 => ∃ k, z = .bl k ∧ if k = true then tc σ H3 fun z H4 => r' y z H4 Q else Q (.bl false) H3) : tChain r r' ta tb tc σ H Q := h
instance {r r' : R2} : Stp (tChain r r' ta tb tc σ H Q) (ta σ H fun x H1 => tb σ H1 fun y H2 => r x y H2 fun z H3 => ∃ k, z = .bl k ∧ if k = true then tc σ H3 fun z H4 => r' y z H4 Q else Q (.bl false) H3) := ⟨k_chain⟩
theorem k_ifE (h : t σ H fun c H1 => if c = true then ta σ H1 Q else tb σ H1 Q) : tIf t ta tb σ H Q := h
instance : Stp (tIf t ta tb σ H Q) (t σ H fun c H1 => if c = true then ta σ H1 Q else tb σ H1 Q) := ⟨k_ifE⟩
def par2 (i j : Nat) (vs : List V) (σ : L2.St) (H : Hp) (nx : L2.St → Hp → Prop) : Prop := ∃ v w, vs = [v, w] ∧ nx ((σ.set i (some v)).set j (some w)) H
instance : Stp (tPar i j tr ⟨nx, rt, bk, ct⟩ σ H) (tr σ H fun vs H1 => par2 i j vs σ H1 nx) := ⟨fun h => h⟩
instance {σ'' : L2.St} [e : Put σ i (some v) σ'] [e2 : Put σ' j (some w) σ''] : Stp (par2 i j [v, w] σ H nx) (nx σ'' H) := ⟨fun h => ⟨v, w, rfl, by rw [e.eq, e2.eq]; exact h⟩⟩
end
/-! ### bits -/
def xShl : R2 := rI CPow fun i j => .int (i * 2 ^ j.toNat)
def xAnd : R2 := rI0 fun i j => .int (Builtin.bitAnd i j)
theorem k_shl {H : Hp} {Q : VK} {i j : Int} (hc : CPow i j) (h : Q (.int (i * 2 ^ j.toNat)) H) : xShl (.int i) (.int j) H Q := ⟨i, j, rfl, rfl, hc, h⟩
instance {H : Hp} {Q : VK} {i j : Int} : Stp (xAnd (.int i) (.int j) H Q) (Q (.int (Builtin.bitAnd i j)) H) := ⟨fun h => ⟨i, j, rfl, rfl, h⟩⟩
/-! ### list.count of flat values -/
def cntV (y : V) (ys : List V) : Nat := ys.countP fun z => eqV z y
def rCntV (K : PySem.W.Frag) : V → List V → Hp → VK → Prop := fun x xs H Q => ∃ (a : Addr) (ys : List V) (y : V), x = V.ref a ∧ xs = [y] ∧ SqL K H a ys ∧ flatV y = true ∧ ys.all flatV = true ∧ Q (.int (cntV y ys : Nat)) H
theorem cntV_eq {y : V} : ∀ {ys : List V} {its : List Value}, Vals ys its → ys.all flatV = true → its.countP (eqU y) = cntV y ys
  | _, _, .nil, _ => rfl
  | a :: as, _ :: _, .cons r rs, f => by
    have f1 : flatV a = true ∧ as.all flatV = true := by simpa using f
    unfold cntV
    rw [List.countP_cons, List.countP_cons, eqU_of r f1.1, cntV_eq rs f1.2]
    rfl
theorem mt_lcountV {X : Cx} : MtR X "list.count" (rCntV X.K) := by
  intro pins s σ H x xs v us Q I rx rxs h
  obtain ⟨a, ys, y, rfl, rfl, hs, fy, fys, q⟩ := h
  cases rx
  cases rxs with
  | cons ry rt =>
    rename_i uy ut
    cases rt
    obtain ⟨its, rv, ⟨⟨cls, dd, data, sl⟩, n, ho, hc, hdn, hd⟩, hlen⟩ := I.list hs
    simp only at hc hd
    subst hc hd
    refine call_meets PySem.F.slot_list_count ⟨_, ho, rfl⟩ PySem.F.entry_list_count (PySem.F.args_list_count_2 _ _)
      (SeqAt.list_countAt a its.toArray n dd sl uy (eqU y)) ⟨ho, fun u' hu' => mem_eqAt ry fy rv fys u' (by simpa using hu'), ?_⟩
    have ec : its.toArray.toList.countP (eqU y) = cntV y ys := cntV_eq rv fys
    refine ⟨.int (cntV y ys : Nat), H, I.tok _, ⟨s.toks, ?_⟩, q⟩
    show Value.int ((its.toArray.toList.countP (eqU y) : Nat) : Int) s.toks = Value.int ((cntV y ys : Nat) : Int) s.toks
    rw [ec]
section
variable {K : PySem.W.Frag} {H : Hp} {Q : VK}
theorem k_catN {p q : Addr} {xs ys : List V} (hp : H p = some (.lst xs)) (hq : H q = some (.lst ys)) (hz : xs.length + ys.length ≤ 100000) (h : ∀ l H', H l = none → Same H H' → H' l = some (.lst (xs ++ ys)) → Q (.ref l) H') : rCat (.ref p) (.ref q) H Q := k_cat hp hq hz fun l nl => h l _ nl (same_new nl) upd_same
theorem k_cntV {p : Addr} {ys : List V} {y : V} (hs : SqL K H p ys) (fy : flatV y = true) (fys : ys.all flatV = true) (h : Q (.int (cntV y ys : Nat)) H) : rCntV K (.ref p) [y] H Q := ⟨p, ys, y, rfl, rfl, hs, fy, fys, h⟩
theorem k_indexV {p : Addr} {ys : List V} {y z : V} {j : Nat} (hs : SqL K H p ys) (fy : flatV y = true) (fys : ys.all flatV = true) (hj : ys[j]? = some z) (hz : eqV z y = true) (hn : ∀ (m : Nat) (z' : V), m < j → ys[m]? = some z' → eqV z' y = false) (h : Q (.int (j : Nat)) H) : rIndex K (.ref p) [y] H Q := ⟨p, ys, y, j, z, rfl, rfl, hs, fy, fys, hj, hz, hn, h⟩
theorem k_sortedN {a : Addr} {ns : List Int} (hs : SqL K H a (ns.map V.int)) (h : ∀ (ns' : List Int) (p : Addr) H', ns'.Perm ns → ns'.Pairwise (· ≤ ·) → H p = none → Same H H' → H' p = some (.lst (ns'.map V.int)) → Q (.ref p) H') : rSortedI K [.ref a] H Q := k_sortedI hs fun ns' p h1 h2 h3 => h ns' p _ h1 h2 h3 (same_new h3) upd_same
end
/-! ### facts of older heaps -/
theorem hid_back {S : List Addr} {X Y : Hp} (h : Same X (hid S Y)) : Same X Y := h.trans (hid_same S Y)
theorem at_same {X Y : Hp} {p : Addr} {o : HO} (h : X p = some o) (s : Same X Y) : Y p = some o := s _ _ h
theorem sl_at {K : PySem.W.Frag} {X Y : Hp} {p : Addr} {xs : List V} (h : X p = some (.lst xs)) (s : Same X Y) : SqL K Y p xs := sl (s _ _ h)
theorem st_at {K : PySem.W.Frag} {X Y : Hp} {p : Addr} {xs : List V} (h : X p = some (.tup xs)) (s : Same X Y) : SqT K Y p xs := stp (s _ _ h)
theorem dpI_at {K : PySem.W.Frag} {X Y : Hp} {p : Addr} {ns : List Int} (h : X p = some (.lst (ns.map V.int))) (s : Same X Y) : Dp K Y (.ref p) (dInts ns) := dp_of_ints (sl (s _ _ h))
theorem dpP_at {K : PySem.W.Frag} {X Y : Hp} {p : Addr} {a b : Int} (h : X p = some (.tup [.int a, .int b])) (s : Same X Y) : Dp K Y (.ref p) (dPair (a, b)) := dp_of_pair (stp (s _ _ h))
theorem hid_free {S : List Addr} {H : Hp} (f : ∀ a ∈ S, H a = none) : Same H (hid S H) := fun b o hb => by
  rw [hid_ne fun z => by rw [f b z] at hb; cases hb]; exact hb
theorem hid_free1 {p : Addr} {H : Hp} (f : H p = none) : Same H (hid [p] H) := hid_free (free1 f)
theorem cut_to (xs : List V) (k : Nat) : cutV xs none (some (k : Int)) = xs.take k := by
  unfold cutV
  rw [HT.sIx_none, HT.sIx_nat, List.drop_zero, Nat.sub_zero]
  by_cases h : k ≤ xs.length
  · rw [Nat.min_eq_left h]
  · rw [Nat.min_eq_right (by omega), List.take_of_length_le (by simp), List.take_of_length_le (by omega)]
theorem cut_from (xs : List V) (k : Nat) : cutV xs (some (k : Int)) none = xs.drop k := by
  unfold cutV
  rw [HT.sIx_none, HT.sIx_nat]
  by_cases h : k ≤ xs.length
  · rw [Nat.min_eq_left h]
    exact List.take_of_length_le (by simp)
  · rw [Nat.min_eq_right (by omega), List.drop_of_length_le (Nat.le_refl _), List.drop_of_length_le (by omega), List.take_nil]
theorem dpa_take {K : PySem.W.Frag} {H : Hp} : ∀ {vs : List V} {ds : List PyData} (n : Nat), DpAll K H vs ds → DpAll K H (vs.take n) (ds.take n)
  | _, _, 0, _ => by simp only [List.take_zero]; exact .nil
  | _, _, n + 1, .nil => by simp only [List.take_nil]; exact .nil
  | _, _, n + 1, .cons h r => .cons h (dpa_take n r)
theorem dpa_drop {K : PySem.W.Frag} {H : Hp} : ∀ {vs : List V} {ds : List PyData} (n : Nat), DpAll K H vs ds → DpAll K H (vs.drop n) (ds.drop n)
  | _, _, 0, h => h
  | _, _, n + 1, .nil => by simp only [List.drop_nil]; exact .nil
  | _, _, n + 1, .cons _ r => dpa_drop n r
theorem Le.at {H H' : Hp} {pu p : Addr} {k : Int} {o : HO} (L : Le H pu k) (np : H p = none) (e : H' p = some o) : hid [pu] H' p = some o := by rw [hid_ne (L.fresh np)]; exact e
theorem hat {H : Hp} {pu p : Addr} {o : HO} (np : p ∉ [pu]) (e : H p = some o) : hid [pu] H p = some o := by rw [hid_ne np]; exact e
theorem kLp {xs : List V} {H : Hp} {Q : VK} {pu : Addr} {k : Int} (L : Le H pu k) (hn : xs.length ≤ 100000) (h : ∀ p H', H p = none → Same H H' → hid [pu] H' p = some (.lst xs) → Q (.ref p) H') : newL xs H Q := ⟨sz hn, fun p np => h p _ np (same_new np) (L.at np upd_same)⟩
theorem kTp {xs : List V} {H : Hp} {Q : VK} {pu : Addr} {k : Int} (L : Le H pu k) (hn : xs.length ≤ 100000) (h : ∀ p H', H p = none → Same H H' → hid [pu] H' p = some (.tup xs) → Q (.ref p) H') : newT xs H Q := ⟨sz hn, fun p np => h p _ np (same_new np) (L.at np upd_same)⟩
theorem sh_l2 {n : Nat} {c d : PyData} (h1 : Sh n c) (h2 : Sh n d) : Sh (n + 1) (.list [c, d]) := sh_list fun x hx => by
  rcases List.mem_cons.mp hx with rfl | hx
  · exact h1
  · rcases List.mem_cons.mp hx with rfl | hx
    · exact h2
    · cases hx
section
variable {K : PySem.W.Frag} {σ : L2.St} {H1 : Hp} {Q : VK} {g : TG} {tt : TT} {te : TE} {vs : List Nat}
/-- over a range, new objects may be made -/
theorem lc_growR {QD : Addr → Hp → Prop} {lo : Int} {n : Nat} (hz : n ≤ 50000) (f : Nat → Option V)
    (step : ∀ (i : Nat) H', i < n → Same H1 H' → ∀ (R : V → Hp → Prop) (R0 : Hp → Prop), (∀ y H'', f i = some y → Same H' H'' → R y H'') → (∀ H'', f i = none → Same H' H'' → R0 H'') →
      g (.int (lo + (i : Nat))) (wipe σ vs) H' fun σ2 H2 => wipe σ2 vs = wipe σ vs ∧ tt σ2 H2 fun b H3 => if b = true then te σ2 H3 R else R0 H3)
    (h : ∀ D H', H1 D = none → Same H1 H' → H' D = some (.lst ((List.range n).filterMap f)) → QD D H') :
    ∀ D, H1 D = none → ∃ W : Nat → Nat → Hp → Prop, (∃ m, W 0 m (upd H1 D (.lst []))) ∧ ∀ i m H, W i m H →
      ((Itr lo n).stop i H ∧ QD D H) ∨ ((Itr lo n).go i H ∧ ∃ Nx : Hp → Prop, (∀ H', Nx H' → ∃ m', m' < m ∧ W (i + 1) m' H') ∧ ∀ x H', (Itr lo n).yld i H x H' → g x (wipe σ vs) H' fun σ2 H2 => wipe σ2 vs = wipe σ vs ∧ tt σ2 H2 fun b H3 =>
        if b = true then te σ2 H3 fun y H4 => ∃ acc, H4 D = some (.lst acc) ∧ acc.length < sizeLine ∧ Nx (upd H4 D (.lst (acc ++ [y]))) else Nx H3) := by
  refine fun D nD => lc_range (fun i H => Same H1 H ∧ H D = some (.lst (((List.range n).take i).filterMap f))) ⟨same_new nD, by rw [upd_same]; simp⟩ ?_ ?_
  · rintro i H hi ⟨sm, hD⟩
    have tk := take_filterMap (f := f) (range_take hi)
    refine step i H hi sm _ _ (fun y H'' hy s2 => ⟨_, s2 _ _ hD, szl ?_, same_mut (sm.trans s2) nD, ?_⟩) (fun H'' hn s2 => ⟨sm.trans s2, ?_⟩)
    · have := List.length_filterMap_le f ((List.range n).take i)
      rw [List.length_take, List.length_range] at this
      omega
    · rw [upd_same, tk, hy]; rfl
    · rw [tk, hn, s2 _ _ hD]; simp
  · rintro H ⟨sm, hD⟩
    rw [List.take_of_length_le (by simp)] at hD
    exact h D H nD sm hD
end
/-- behind an if: what follows is shown once -/
theorem ifjoin {c : Bool} {σ : L2.St} {H : Hp} {s1 s2 : TS} {nx bk ct : L2.St → Hp → Prop} {rt : VK} (G : L2.St → Hp → Prop) (main : ∀ σ H, G σ H → nx σ H) (h : (∀ σ H, G σ H → nx σ H) → if c = true then s1 ⟨nx, rt, bk, ct⟩ σ H else s2 ⟨nx, rt, bk, ct⟩ σ H) : if c = true then s1 ⟨nx, rt, bk, ct⟩ σ H else s2 ⟨nx, rt, bk, ct⟩ σ H := h main
theorem k_repN {H : Hp} {Q : VK} {p : Addr} {xs : List V} {k : Int} (hp : H p = some (.lst xs)) (h0 : 0 ≤ k) (h1 : k < 100000) (h2 : xs.length * k.toNat ≤ 100000) (h : ∀ l H', H l = none → Same H H' → H' l = some (.lst (List.replicate k.toNat xs).flatten) → Q (.ref l) H') : rRep (.ref p) (.int k) H Q := k_rep hp h0 h1 h2 fun l nl => h l _ nl (same_new nl) upd_same
theorem ixN_last {n : Nat} (h : 0 < n) : ixN n (-1) = some (n - 1) := by
  unfold ixN
  rw [if_neg (by omega)]
  split
  · simp; omega
  · omega
theorem ifsjoin {t : TT} {σ : L2.St} {H : Hp} {s1 s2 : TS} {nx bk ct : L2.St → Hp → Prop} {rt : VK} (G : L2.St → Hp → Prop) (main : ∀ σ H, G σ H → nx σ H) (h : (∀ σ H, G σ H → nx σ H) → tIfS t s1 s2 ⟨nx, rt, bk, ct⟩ σ H) : tIfS t s1 s2 ⟨nx, rt, bk, ct⟩ σ H := h main
/-- over a list or a tuple -/
def iAny (w1 w2 : TI) : TI := fun σ H R => w1 σ H R ∨ w2 σ H R
theorem pi_any {X : Cx} {tg it : Expr} {w1 w2 : TI} (h1 : PI X tg it w1) (h2 : PI X tg it w2) : PI X tg it (iAny w1 w2) := ⟨fun pins s σ H R I h => by
  rcases h with h | h
  · exact h1.run pins s σ H R I h
  · exact h2.run pins s σ H R I h⟩
theorem k_inT2 {K : PySem.W.Frag} {H : Hp} {Q : VK} {p : Addr} {x a b : Int} (hs : SqT K H p [.int a, .int b]) (h : Q (.bl (decide (x = a ∨ x = b))) H) : rIn K false (.int x) (.ref p) H Q :=
  ⟨p, _, rfl, .inr hs, rfl, flat_ints [a, b], by
    rw [if_neg Bool.false_ne_true, show ([V.int a, .int b] : List V) = List.map V.int [a, b] from rfl, inV_ints]
    have e : decide (x ∈ [a, b]) = decide (x = a ∨ x = b) := by simp
    rw [e]; exact h⟩
theorem Pu.at {H H' : Hp} {pu ce p : Addr} {n : Nat} {t : Int} {o : HO} (L : Pu H pu ce n t) (np : H p = none) (e : H' p = some o) : hid [pu, ce] H' p = some o := by rw [hid_ne (L.fresh np)]; exact e
theorem kLq {xs : List V} {H : Hp} {Q : VK} {pu ce : Addr} {n : Nat} {t : Int} (L : Pu H pu ce n t) (hn : xs.length ≤ 100000) (h : ∀ p H', H p = none → Same H H' → hid [pu, ce] H' p = some (.lst xs) → Q (.ref p) H') : newL xs H Q := ⟨sz hn, fun p np => h p _ np (same_new np) (L.at np upd_same)⟩
theorem kTq {xs : List V} {H : Hp} {Q : VK} {pu ce : Addr} {n : Nat} {t : Int} (L : Pu H pu ce n t) (hn : xs.length ≤ 100000) (h : ∀ p H', H p = none → Same H H' → hid [pu, ce] H' p = some (.tup xs) → Q (.ref p) H') : newT xs H Q := ⟨sz hn, fun p np => h p _ np (same_new np) (L.at np upd_same)⟩
end Cm

namespace Cm
open PySem PySem.Spec PyProof.Rows L2

/-! ### a caught exception that is kept as a value -/
def ExV (cls : Value) (d : Option Addr) (a : Addr) : HO := .ext fun h => ∃ (oe : Obj) (vs : Array Value), h.get? a = some oe ∧ Zc cls d oe ∧ oe.data = .fields vs
theorem exV_ok {P : Program} {w : World} {H : Hp} {h : Heap} {a : Addr} {cls : Value} {d : Option Addr} {oe : Obj} {vs : Array Value} (he : h.get? a = some oe) (hz : Zc cls d oe) (hd : oe.data = .fields vs) : ObjOk P w H h a (ExV cls d a) :=
  ⟨⟨oe, vs, he, hz, hd⟩, ⟨oe, he⟩, fun h1 h2 ⟨o1, v1, g1, g2, g3⟩ k => ⟨o1, v1, k _ g1, g2, g3⟩⟩
theorem exV_at {P : Program} {w : World} {H : Hp} {h : Heap} {a : Addr} {cls : Value} {d : Option Addr} (hok : HOk P w H h) (e : H a = some (ExV cls d a)) : ∃ (oe : Obj) (vs : Array Value), h.get? a = some oe ∧ Zc cls d oe ∧ oe.data = .fields vs :=
  (hok a _ e).1
section
variable {X : Cx} {pins : List (Addr × Obj)} {σ : L2.St} {H : Hp} {s : Shared}
/-- an object of this def's own time is taken into sight -/
theorem track {a : Addr} {cls : Value} {d : Option Addr} {oe : Obj} {vs : Array Value} (I : Inv X pins σ H s) (he : s.heap.get? a = some oe) (hz : Zc cls d oe) (hd : oe.data = .fields vs) (na : H a = none) (n0 : X.s_0.heap.get? a = none)
    (nL : a ≠ X.env.locals) (np : ∀ p ∈ X.pn ++ pins, p.1 ≠ a) : Inv X pins σ (upd H a (ExV cls d a)) s := by
  have ne : ∀ {b : Addr} {o : HO}, H b = some o → b ≠ a := fun q => ne_of_none q na
  have nb : ∀ b o, X.s_0.heap.get? b = some o → b ≠ a := fun b o q z => by rw [z, n0] at q; cases q
  refine { I with base := ?_, free := ?_, freeC := ?_, pin := ?_, hok := ?_ }
  · have B := I.base
    refine ⟨B.keep, B.slot, fun b o q n x => ?_, B.there, fun b xs q => ?_, fun b o u q => ?_, fun b ps q => ?_⟩
    · rw [upd_ne (nb b o q)]; exact B.free b o q n x
    · have z := B.tups b xs q; rw [upd_ne (ne z)]; exact z
    · have z := B.frzs b o u q; rw [upd_ne (ne z)]; exact z
    · obtain ⟨m, z⟩ := B.tbls b ps q; exact ⟨m, by rw [upd_ne (ne z)]; exact z⟩
  · rw [upd_ne nL.symm]; exact I.free
  · intro x c q
    have nc : c ≠ a := fun z => by
      obtain ⟨v, oc, g1, g2⟩ := I.cell x c q
      rw [z, he] at g1
      cases g1
      rw [hd] at g2
      cases g2
    rw [upd_ne nc]; exact I.freeC x c q
  · intro p hp
    obtain ⟨g1, g2, g3⟩ := I.pin p hp
    exact ⟨g1, by rw [upd_ne (np p hp)]; exact g2, g3⟩
  · intro b u q
    by_cases hb : b = a
    · rw [hb] at q ⊢
      rw [upd_same] at q
      cases q
      exact exV_ok he hz hd
    · rw [upd_ne hb] at q
      exact (I.hok b u q).stay (fun _ _ _ z => z) (fun c z => by rw [upd_ne (ne z)]; exact z) fun c xs z => by rw [upd_ne (ne z)]; exact z
end
/-- what «except x as n: suite» wishes, the exception kept behind it -/
def wKept (K : PySem.W.Frag) (c : Value) (i : Nat) (ts : Addr → Value → Option Addr → TS) (Wout : WX) (D : Ends) : WX := fun cls d σ H =>
  ∃ b, PySem.W.exmOne K cls c = some b ∧
    (b = true → ∀ a, H a = none → ts a cls d ⟨fun σ' H' => D.nx (σ'.set i none) (upd H' a (ExV cls d a)), fun _ _ => False, fun _ _ => False, fun _ _ => False⟩ (σ.set i (some (.ref a))) H) ∧ (b = false → Wout cls d σ H)
section
variable {X : Cx} {x n : Str} {c : Value} {i : Nat} {body suite : List Stmt} {b0 : Stmt} {np pos pos' : Pos} {tb : WX → TS} {ts : Addr → Value → Option Addr → TS} {Wout : WX}
theorem ps_try_kept (hst : X.stack = X.env :: X.outer) (hfm : X.env.frame = some X.env.locals) (hex : X.ex = []) (hN : X.N.Nodup) (hi : X.N[i]? = some n) (hln : X.env.kindOf n = some .local) (hc : Names X x c) (tk : Takes X Wout)
    (hb : ∀ (W : WX) (pn : List (Addr × Obj)) (xe : Value → Shared → Prop), Takes (X.tr pn xe) W → PassesOwn (model X.prog X.w) X.A X.env xe → PSs (X.tr pn xe) body (tb W))
    (hsu : ∀ (a : Addr) (oe : Obj) (cls : Value) (d : Option Addr) (pn : List (Addr × Obj)), Zc cls d oe → (∃ vs, oe.data = .fields vs) → PSs (X.suite a ((a, oe) :: pn)) (b0 :: suite) (ts a cls d)) :
    PS X (.Try body [.ExceptHandler (some (.Name x np)) (some n) (b0 :: suite) pos'] [] [] pos) (fun D σ H => tb (wKept X.K c i ts Wout D) D σ H) := by
  constructor
  intro pins s σ H D I h
  have ok := I.ok
  have frm : X.A.frames = some (X.env :: X.outer) := by rw [← hst]; exact ok.frames
  refine wpAny_Try_except (wpAny_mono ((hb (wKept X.K c i ts Wout D) (X.pn ++ pins) _ (fun u s1 air => ?caught) PassesOwn.looking).run [] s σ H D (I.toTry _) h) (fun f s1 q => ?through) (fun e s1 q => q))
  case through =>
    cases f with
    | next => obtain ⟨σ1, H1, J, q⟩ := q; exact wpAny_execs_nil ⟨σ1, H1, J.ofTry ok, q⟩
    | brk => obtain ⟨σ1, H1, J, q⟩ := q; exact ⟨σ1, H1, J.ofTry ok, q⟩
    | cont => obtain ⟨σ1, H1, J, q⟩ := q; exact ⟨σ1, H1, J.ofTry ok, q⟩
    | ret u => obtain ⟨v, σ1, H1, J, r, q⟩ := q; exact ⟨v, σ1, H1, J.ofTry ok, r, q⟩
  case caught =>
    obtain ⟨a, B, sI, pins1, σ1, H1, cls, d, rfl, J0, ground, up, sky, na, os, bare, b, hcls, yes, no⟩ := air
    have J : Inv X pins σ1 H1 sI := J0.ofTry ok
    rw [show (X.tr (X.pn ++ pins) _).stack = X.stack from rfl, hst] at sky
    have Ba : B.get? a = none := by
      rcases sky with z | z | z
      · exact z.2.1
      · exact z.2.1
      · exact z.2.1
    show wpAny (model X.prog X.w) X.A (noteFrame (.ref a) X.env) _ _ _
    refine Sky.land Zc.steady frm hfm sky fun h2 fly up2 => ?_
    obtain ⟨o2, v2, g2, z2, d2⟩ := fly.there
    have J2 : Inv X pins σ1 H1 { s1 with heap := h2 } := J.landed ground fly.1 (up.trans up2) os bare
    have out : a ∉ frs (X.env :: X.outer) := fun hm => by
      obtain ⟨_, o', e', hnf⟩ := fly.2.2.1.mem hm
      rw [g2] at e'
      cases e'
      exact hnf _ d2
    have nL : a ≠ X.env.locals := fun z => out (List.mem_filterMap.mpr ⟨X.env, List.mem_cons_self, by rw [hfm, z]⟩)
    have nF : a ∉ X.fs := fun hm => by
      obtain ⟨e, he, q⟩ := List.mem_filterMap.mp hm
      exact out (List.mem_filterMap.mpr ⟨e, List.mem_cons_of_mem _ he, q⟩)
    have sIa : sI.heap.get? a = none := by
      cases q : sI.heap.get? a with
      | none => rfl
      | some o =>
        have := ground a o q (by rw [show (X.tr (X.pn ++ pins) _).stack = X.stack from rfl, hst]; exact out)
        rw [Ba] at this; cases this
    have n0 : X.s_0.heap.get? a = none := by
      cases q : X.s_0.heap.get? a with
      | none => rfl
      | some o =>
        obtain ⟨o', q'⟩ := J.base.there a o q (by rw [hex]; simp)
        rw [sIa] at q'; cases q'
    have pinNe : ∀ p ∈ X.pn ++ pins, p.1 ≠ a := fun p hp z => by
      have := (J.pin p hp).1
      rw [z, sIa] at this; cases this
    refine wpAny_handleBy_cons (codeAny_handlers_test ?_) (fun q => by cases q)
    have T2 := J2.suite g2 d2 na nL nF
    have ty : PySem.W.Looks (model X.prog X.w) h2 (typeOf (.ref a)) cls := fun _ _ _ _ k q => wpAny_typeOf_ref (k _ _ g2) (by rw [z2.1]; exact q)
    have named : ∀ {Q : Value → Shared → Prop} {E : Value → Shared → Prop}, Q c { s1 with heap := h2 } → wpAny (model X.prog X.w) (X.A.mark (some (.ref a))) (eval (.Name x np) X.env) Q E { s1 with heap := h2 } := fun {Q E} q => by
      obtain ⟨gl, db, hm | ⟨hm, hv, hn⟩⟩ := hc
      · exact ld_glob (X := X.suite a ((a, o2) :: (X.pn ++ pins))) T2 gl hm q db
      · exact ld_blt (X := X.suite a ((a, o2) :: (X.pn ++ pins))) T2 gl hm hv q hn db
    refine named ((PySem.W.exm_one (M := model X.prog X.w) J2.kIn ty hcls).here ?_)
    cases b with
    | false =>
      show wpAny _ X.A (handleBy (.ref a) X.env []) _ _ _
      refine wpAny_handleBy_nil ?_
      obtain ⟨_, _, _, oe, vs, T, oT, ts', he, hz, hd, h1, hr⟩ := id fly
      unfold PySem.passOn
      refine wpAny_bind (wpAny_field he hd h1 ?_)
      rw [if_neg (show ¬ ((Value.ref T == Value.none) = true) by simp)]
      have on : wpAny (model X.prog X.w) X.A (setFlight (.ref a) X.env.frame) (fun _ s4 => wpAny (model X.prog X.w) X.A (throw (.ref a) : Sem Flow) (SP X pins D) X.xe s4) X.xe { s1 with heap := h2 } := by
        rw [hfm]
        refine HandSPX.setFlight_upZ fly fun h4 hh4 up4 => wpAny_throw (tk _ _ ⟨a, B, sI, pins, σ1, H1, cls, d, rfl, J, ground, (up.trans up2).trans up4, .inr (.inr (by rw [hst]; exact hh4)), na, os, bare, no rfl⟩)
      first
        | exact wpAny_bind (wpAny_pure (wpAny_bind on))
        | exact wpAny_bind on
    | true =>
      refine codeAny_handlers_suite_as (HandSPX.lands_againZ fly fun h3 fly3 up3 => ?_)
      obtain ⟨o3, v3, g3, z3, d3⟩ := fly3.there
      have J3 : Inv X pins σ1 H1 { s1 with heap := h3 } := J.landed ground fly3.1 ((up.trans up2).trans up3) os bare
      refine store_ok (X := X.suite a ((a, o3) :: (X.pn ++ pins))) (v := .ref a) (J3.suite g3 d3 na nL nF) hN hi (.inl hln) rfl (fun s4 S4 => ?_) (.inr hln)
      refine wpAny_mono ((hsu a o3 cls d (X.pn ++ pins) z3 ⟨_, d3⟩).run [] s4 _ H1 _ S4 (yes rfl a na)) (fun f s5 q => ?_) (fun _ _ z => z.elim)
      cases f with
      | brk => obtain ⟨_, _, _, q⟩ := q; exact q.elim
      | cont => obtain ⟨_, _, _, q⟩ := q; exact q.elim
      | ret u => obtain ⟨_, _, _, _, _, q⟩ := q; exact q.elim
      | next =>
        obtain ⟨σ5, H5, S5, q5⟩ := q
        have K5 : Inv X ((a, o3) :: pins) σ5 H5 s5 := ⟨ok, S5.os, S5.bare, S5.base, S5.loc, S5.cell, S5.free, S5.freeC, fun p hp => S5.pin p (by
          rw [List.append_nil]
          rcases List.mem_append.mp hp with hp | hp
          · exact List.mem_cons_of_mem _ (List.mem_append_left _ hp)
          · rcases List.mem_cons.mp hp with hp | hp
            · rw [hp]; exact List.mem_cons_self
            · exact List.mem_cons_of_mem _ (List.mem_append_right _ hp)), S5.hok, S5.len⟩
        refine gone_ok K5 hN hi hln fun s6 K6 => ?_
        obtain ⟨g6, na6, _⟩ := K6.pin (a, o3) (List.mem_append_right _ List.mem_cons_self)
        have K7 : Inv X pins (σ5.set i none) H5 s6 := { K6 with pin := fun p hp => K6.pin p (by
          rcases List.mem_append.mp hp with hp | hp
          · exact List.mem_append_left _ hp
          · exact List.mem_append_right _ (List.mem_cons_of_mem _ hp)) }
        exact ⟨_, _, track K7 g6 z3 d3 na6 n0 nL pinNe, q5⟩
end

/-! ### isinstance of a kept exception, of None and of the other values -/
/-- what an exception class of the program must say, so that its instances are asked rightly -/
structure ExK (K : PySem.W.Frag) (D : Addr) : Prop where
  hg : PySem.W.findIn K (.ref D) "__getattribute__" = some (some (.builtin "BaseException.__getattribute__"))
  hk : PySem.W.findIn K (.ref D) "__getattr__" = some none
  hs : PySem.W.subIn K (.ref D) (.type "BaseException") = some true
  hd : PySem.W.hasDictIn K D = true
  ha : PySem.W.findIn K (.ref D) "__class__" = some (some (.builtin "object.__class__"))
  hn : PySem.W.specialIn K (.builtin "object.__class__") "__get__" = some (some (.builtin "getset_descriptor.__get__"))
  ht : PySem.W.takesIn K (.builtin "object.__class__") = some true
  hm : PySem.W.mroIn K D (.type "object") = some true
def exkB (K : PySem.W.Frag) (D : Addr) : Bool :=
  (PySem.W.findIn K (.ref D) "__getattribute__" == some (some (.builtin "BaseException.__getattribute__"))) && ((PySem.W.findIn K (.ref D) "__getattr__" == some none) && ((PySem.W.subIn K (.ref D) (.type "BaseException") == some true) && (PySem.W.hasDictIn K D &&
  ((PySem.W.findIn K (.ref D) "__class__" == some (some (.builtin "object.__class__"))) && ((PySem.W.specialIn K (.builtin "object.__class__") "__get__" == some (some (.builtin "getset_descriptor.__get__"))) && ((PySem.W.takesIn K (.builtin "object.__class__") == some true) && (PySem.W.mroIn K D (.type "object") == some true)))))))
theorem exkB_ok {K : PySem.W.Frag} {D : Addr} (h : exkB K D = true) : ExK K D := by
  unfold exkB at h
  simp only [Bool.and_eq_true, beq_iff_eq] at h
  obtain ⟨h1, h2, h3, h4, h5, h6, h7, h8⟩ := h
  exact ⟨h1, h2, h3, h4, h5, h6, h7, h8⟩
theorem ExK.xf {K : PySem.W.Frag} {D : Addr} (h : ExK K D) : XfC K D := ⟨h.hg, h.hk, h.hs, h.hd⟩
/-- what is known of a kept exception at a: its class D, its dict's state -/
def KeptAt (H : Hp) (a D : Addr) : Prop := ∃ d : Option Addr, H a = some (ExV (.ref D) d a) ∧ (d = none ∨ ∃ dd fs, d = some dd ∧ H dd = some (.xd fs))
def rIsX (K : PySem.W.Frag) : List V → Hp → VK → Prop := fun xs H Q => ∃ (a D : Addr) (c : V) (cv : Value) (b : Bool), xs = [.ref a, c] ∧ KeptAt H a D ∧ ExK K D ∧ ClsV c cv ∧ PySem.W.kitOne K (.ref D) cv = some b ∧ Q (.bl b) H
def rIsXT (K : PySem.W.Frag) : List V → Hp → VK → Prop := fun xs H Q => ∃ (a D tp : Addr) (cs : List V) (us : List Value) (b : Bool), xs = [.ref a, .ref tp] ∧ KeptAt H a D ∧ ExK K D ∧ H tp = some (.tup cs) ∧ Paired ClsV cs us ∧ PySem.W.kitAny K (.ref D) us = some b ∧ Q (.bl b) H
section
variable {X : Cx} {pins : List (Addr × Obj)} {σ : L2.St} {H : Hp} {s : Shared}
theorem kept_inst {a D : Addr} (I : Inv X pins σ H s) (k : KeptAt H a D) : ∃ ox od, PySem.W.InstAt s.heap a ox D od := by
  obtain ⟨d, e, dd⟩ := k
  obtain ⟨oe, vs, g, z, hd⟩ := exV_at I.hok e
  obtain ⟨oc, od, oda, osl⟩ := oe
  obtain ⟨h1, h2⟩ := z
  dsimp only at h1 h2 hd
  subst h1 h2 hd
  rcases dd with rfl | ⟨dx, fs, rfl, hx⟩
  · exact ⟨_, none, g, rfl, rfl, trivial⟩
  · obtain ⟨mA, ⟨o, es, ep, g2, _⟩, _⟩ := (show ObjOk X.prog X.w H s.heap dx (.xd fs) from I.hok dx _ hx)
    exact ⟨_, some o, g, rfl, rfl, g2⟩
theorem kit_exc {K : PySem.W.Frag} {a D : Addr} {ox : Obj} {od : Option Obj} (C : ExK K D) : PySem.W.KitX K (.ref a) (.ref D) (fun h => PySem.W.InstAt h a ox D od) := by
  have hcl : (PySem.W.clsIn K D).isSome = true := by
    obtain ⟨cd, hc, _⟩ := PySem.W.any_some C.hd
    rw [hc]; rfl
  exact PySem.W.kitx_exc hcl C.hg C.hk C.hs C.ha C.hn C.ht C.hm
theorem call_isX : CallR X (.builtin "isinstance") (rIsX X.K) := by
  intro pins s σ H xs us Q I r h
  obtain ⟨a, D, c, cv, b, rfl, k, C, kc, e, q⟩ := h
  obtain ⟨u1, u2, rfl, r1, r2⟩ := vals2 r
  have e2 := kc.eq r2
  subst e2
  cases (show u1 = Value.ref a from r1)
  obtain ⟨ox, od, J⟩ := kept_inst I k
  exact PySem.W.kia_one (kit_exc C) I.kIn J e (fun z => nomatch z) fun tk => ⟨.bl b, H, I.tok tk, rfl, q⟩
theorem call_isXT : CallR X (.builtin "isinstance") (rIsXT X.K) := by
  intro pins s σ H xs us Q I r h
  obtain ⟨a, D, tp, cs, ws, b, rfl, k, C, hT, kc, e, q⟩ := h
  obtain ⟨u1, u2, rfl, r1, r2⟩ := vals2 r
  cases (show u1 = Value.ref a from r1)
  cases (show u2 = Value.ref tp from r2)
  obtain ⟨ox, od, J⟩ := kept_inst I k
  obtain ⟨_, its, rv, o, h1, h2, n, h3⟩ := (show ObjOk X.prog X.w H s.heap tp (.tup cs) from I.hok tp _ hT)
  have e3 := ClsV.all kc rv
  subst e3
  obtain ⟨oc, od', dt, sl⟩ := o
  simp only at h2 h3
  subst h2 h3
  exact PySem.W.kia_tup (kit_exc C) I.kIn J h1 e (fun z => nomatch z) fun tk => ⟨.bl b, H, I.tok tk, rfl, q⟩
/-- isinstance of anything, one class or a tuple of them -/
def rIsA (K : PySem.W.Frag) : List V → Hp → VK → Prop := fun xs H Q => rIsi K xs H Q ∨ rIsiT K xs H Q ∨ rIsX K xs H Q ∨ rIsXT K xs H Q
theorem q_isA : CallR X (.builtin "isinstance") (rIsA X.K) := by
  intro pins s σ H xs us Q I r h
  rcases h with h | h | h | h
  · exact call_isi pins s σ H xs us Q I r h
  · exact call_isiT pins s σ H xs us Q I r h
  · exact call_isX pins s σ H xs us Q I r h
  · exact call_isXT pins s σ H xs us Q I r h
end

/-! ### a kept exception's field -/
def tXat (K : PySem.W.Frag) (n : Str) (te : TE) : TE := fun σ H Q => te σ H fun x H1 => ∃ (a C dd : Addr) (fs : List (Str × V)) (v : V), x = .ref a ∧ H1 a = some (ExV (.ref C) (some dd) a) ∧ XfC K C ∧ PySem.W.findIn K (.ref C) n = some none ∧ H1 dd = some (.xd fs) ∧ fs.lookup n = some v ∧ Q v H1
theorem pe_xat {X : Cx} {e : Expr} {te : TE} {pos : Pos} {n : Str} (he : PE X e te) (hb : attributeBase e n X.env (eval e X.env) = eval e X.env := by rfl) : PE X (.Attribute e n pos) (tXat X.K n te) := by
  constructor
  intro pins s σ H Q I h
  refine attr_of hb (thn (he.run pins s σ H _ I h) fun u s1 hh => ?_)
  obtain ⟨x, H1, I1, rx, a, C, dd, fs, v, rfl, ea, T, hno, ed, l, q⟩ := hh
  cases (show u = Value.ref a from rx)
  obtain ⟨oe, vs, g, z, hd⟩ := exV_at I1.hok ea
  obtain ⟨mA, hns, hr⟩ := (show ObjOk X.prog X.w H1 s1.heap dd (.xd fs) from I1.hok dd _ ed)
  obtain ⟨od, ho, hl⟩ := lookIn_ns hns
  obtain ⟨u, hu, ru⟩ := RelO.some_of (v := v) (o := mA n) (by rw [← l]; exact hr n)
  have J : PySem.W.InstAt s1.heap a oe C (some od) := ⟨g, z.1, by unfold PySem.W.notCls; rw [hd] <;> rfl, by rw [z.2]; exact ho⟩
  exact HandSPX.exc_get I1.kIn J T.ga T.gg T.exC (PySem.W.findObj_own T.hdC hno rfl (by rw [hl, hu])) (handed_of ru) ⟨v, H1, I1.tok _, ru, q⟩

/-! ### Base.__init__(self, ..) in an own exception's __init__, Base an own class without an __init__ -/
structure BaseI (K : PySem.W.Frag) (mg : Str → Option Value) (B : Addr) (x : Str) : Prop where
  gB : mg x = some (.ref B)
  rd : PySem.W.readsIn K B (.type "type") = true
  ga : PySem.W.specialIn K (.ref B) "__getattribute__" = some (some (.builtin "type.__getattribute__"))
  at_ : PySem.W.findCls K (.ref B) (.type "type") "__init__" = some (.val (.builtin "ValueError.__init__"))
theorem pe_binit {X : Cx} {x : Str} {B : Addr} {e : Expr} {es : List Expr} {ta : TA} {p1 p2 pos : Pos} {pl : Sem Bool} (T : BaseI X.K X.mg B x) (hg : Gl X x) (ha : PA X (e :: es) ta) (hdb : (x == ("__debug__" : Str)) = false := by decide)
    (hc : eval (.Call (.Attribute (.Name x p1) "__init__" p2) (e :: es) [] pos) X.env = (do
      let ov ← eval (.Name x p1) X.env
      standAt p2.atName
      let (f, first) ← holding [ov] (getMethod ov "__init__" pl)
      callWith pos f first (backTo pos (starEach (e :: es) X.env)) (backToKw pos (keywordEach [] X.env))) := by rfl)
    (he : starEach (e :: es) X.env = (false, eval e X.env) :: starEach es X.env := by rfl) (hpl : (backTo pos (starEach es X.env)).any (·.1) = false := by rfl) :
    PE X (.Call (.Attribute (.Name x p1) "__init__" p2) (e :: es) [] pos) (tVeI X.K ta) := by
  constructor
  intro pins s σ H Q I h
  refine PySem.W.methodCall_KW (ld_glob I hg T.gB ?_ hdb) hc
  refine PySem.W.method_cls I.kIn T.ga (PySem.W.cls_value I.kIn T.rd T.at_ (by decide +kernel) ?_)
  show wpAny _ _ (callWith pos (Value.builtin "ValueError.__init__") [] (backTo pos (starEach (e :: es) X.env)) []) _ _ _
  refine PyProof.Rows.callWith_method1 (thn (ha.run pos pins _ σ H _ (I.tok _) h) fun us s1 hh => ?_) he hpl
  obtain ⟨vs, H1, I1, r1, a, C, ws, rfl, hl, O, ea, q⟩ := hh
  cases r1 with
  | @cons _ u0 _ ur ra rr =>
    cases (show u0 = Value.ref a from ra)
    have len : ur.length ≤ sizeLine := by
      have := Paired.length rr
      rw [sizeLine_eq]
      omega
    exact oinit_ok O I1 ea len fun s' J => ⟨.non, H1, J, rfl, q⟩

/-! ### readings of raise, of an exception's own __init__ and of try, step by step -/
/-- raise C('..'), C without an __init__ -/
def tRaiseP (C : Addr) (E : XK) : TS := fun _ _ H => E (.ref C) none H
/-- raise C(e), C with an __init__ that keeps sp -/
def tRaiseO (C : Addr) (sp : Sp) (ta : TA) (E : XK) : TS := fun _ σ H => tMkO C sp [] ta σ H fun cls d H' => E cls d H'
/-- the promise of such an __init__(self, f): the field f is stored -/
def prInit (C : Addr) (f : Str) (v0 v1 : V) (H : Hp) (Q : VK) : Prop := ∃ a, v0 = .ref a ∧ H a = some (exo a C none) ∧ ∀ dx, H dx = none → dx ≠ a → Q .non (upd (upd H dx (exd dx [(f, v1)])) a (exo a C (some dx)))
def spInit (C : Addr) (f : Str) : Sp := fun vs H Q _ => ∃ v0 v1, vs = [v0, v1] ∧ prInit C f v0 v1 H Q
/-- try: .. except c as n: m = n (n in slot i, m in slot j) -/
def tTryK (K : PySem.W.Frag) (c : Value) (i j : Nat) (tb : WX → TS) : TS := fun D σ H => tb (wKept K c i (fun _ _ _ => tAsg (tVar i) (gName j)) (fun _ _ _ _ => False) D) D σ H
section
variable {K : PySem.W.Frag} {σ : L2.St} {H : Hp} {D : Ends} {E : XK} {C : Addr} {f : Str}
theorem k_raiseP (h : E (.ref C) none H) : tRaiseP C E D σ H := h
theorem heap_made {H : Hp} {a d : Addr} {o1 o2 o3 o4 : HO} (na : H a = none) (ne : d ≠ a) : upd (L2.del (upd (upd (upd H a o1) d o2) a o3) a) d o4 = upd H d o4 := by
  funext b
  by_cases h1 : b = d
  · rw [h1, upd_same, upd_same]
  · rw [upd_ne h1, upd_ne h1]
    by_cases h2 : b = a
    · rw [h2, L2.del_same, na]
    · rw [L2.del_ne h2, upd_ne h2, upd_ne h1, upd_ne h2]
theorem exo_ne_exd {a d C : Addr} {fs : List (Str × V)} : True := trivial
theorem k_raiseO {ta : TA} {v : V} (hta : ∀ (R : List V → Hp → Prop), R [v] H → ta σ H R) (h : ∀ d, H d = none → E (.ref C) (some d) (upd H d (.xd [(f, v)]))) : tRaiseO C (spInit C f) ta E D σ H := by
  refine hta _ ⟨(by show 1 ≤ 1000; decide), fun a na => ?_⟩
  refine ⟨.ref a, v, rfl, a, rfl, upd_same, fun dx ndx ne => ⟨rfl, dx, [(f, v)], upd_same, ?_, ?_, ?_⟩⟩
  · rw [upd_ne ne, upd_same]
  · rw [upd_ne ne] at ndx; exact ndx
  · rw [heap_made na ne]
    rw [upd_ne ne] at ndx
    exact h dx ndx
theorem k_try {i j : Nat} {tb : WX → TS} (h : tb (wKept K (.ref C) i (fun _ _ _ => tAsg (tVar i) (gName j)) (fun _ _ _ _ => False) D) D σ H) : tTryK K (.ref C) i j tb D σ H := h
theorem k_callS {sp : Sp} {W : WX} {tr : TA} {Q : VK} (h : tr σ H fun vs H1 => sp vs H1 Q (WE W σ)) : tCallS sp (WE W) tr σ H Q := h
/-- the exception is one of the clause's -/
theorem k_caught {c : Value} {i j : Nat} {cls : Value} {d : Option Addr} {nx : L2.St → Hp → Prop} {rt : VK} {bk ct : L2.St → Hp → Prop} (hi : i < σ.length) (hc : PySem.W.exmOne K cls c = some true)
    (h : ∀ a, H a = none → nx (((σ.set i (some (.ref a))).set j (some (.ref a))).set i none) (upd H a (ExV cls d a))) : wKept K c i (fun _ _ _ => tAsg (tVar i) (gName j)) (fun _ _ _ _ => False) ⟨nx, rt, bk, ct⟩ cls d σ H :=
  ⟨true, hc, fun _ a na => ⟨.ref a, by rw [List.getElem?_set_self hi], h a na⟩, fun z => Bool.noConfusion z⟩
theorem k_isXone {xs : List V} {Q : VK} {a D : Addr} {c : V} {cv : Value} {b : Bool} (k : KeptAt H a D) (e : ExK K D) (kc : ClsV c cv) (h1 : PySem.W.kitOne K (.ref D) cv = some b) (h : Q (.bl b) H) : rIsA K [.ref a, c] H Q := .inr (.inr (.inl ⟨a, D, c, cv, b, rfl, k, e, kc, h1, h⟩))
theorem k_isXtup {Q : VK} {a D tp : Addr} {cs : List V} {us : List Value} {b : Bool} (k : KeptAt H a D) (e : ExK K D) (hT : H tp = some (.tup cs)) (kc : Paired ClsV cs us) (h1 : PySem.W.kitAny K (.ref D) us = some b) (h : Q (.bl b) H) : rIsA K [.ref a, .ref tp] H Q := .inr (.inr (.inr ⟨a, D, tp, cs, us, b, rfl, k, e, hT, kc, h1, h⟩))
theorem k_isNone {Q : VK} {c : V} {cv : Value} {b : Bool} (kc : ClsV c cv) (h1 : PySem.W.kitOne K (.type "NoneType") cv = some b) (h : Q (.bl b) H) : rIsA K [.non, c] H Q := .inl ⟨_, _, _, _, b, rfl, kc, .base .non, h1, h⟩
theorem k_isOne {Q : VK} {xs : List V} (h : rIsi K xs H Q) : rIsA K xs H Q := .inl h
theorem k_xat {n : Str} {te : TE} {Q : VK} (h : te σ H fun x H1 => ∃ (a C dd : Addr) (fs : List (Str × V)) (v : V), x = .ref a ∧ H1 a = some (ExV (.ref C) (some dd) a) ∧ XfC K C ∧ PySem.W.findIn K (.ref C) n = some none ∧ H1 dd = some (.xd fs) ∧ fs.lookup n = some v ∧ Q v H1) : tXat K n te σ H Q := h
theorem exV_kept {a : Addr} {D : Addr} {d : Option Addr} {H : Hp} (h : H a = some (ExV (.ref D) d a)) (hd : d = none ∨ ∃ dd fs, d = some dd ∧ H dd = some (.xd fs)) : KeptAt H a D := ⟨d, h, hd⟩
end
section
variable {K : PySem.W.Frag} {σ : L2.St} {H : Hp} {D : Ends} {E : XK} {C : Addr} {f : Str} {Q : VK} {te : TE} {tr : TA}
instance {i j : Nat} {tb : WX → TS} : Stp (tTryK K (.ref C) i j tb D σ H) (tb (wKept K (.ref C) i (fun _ _ _ => tAsg (tVar i) (gName j)) (fun _ _ _ _ => False) D) D σ H) := ⟨k_try⟩
instance {sp : Sp} {W : WX} : Stp (tCallS sp (WE W) tr σ H Q) (tr σ H fun vs H1 => sp vs H1 Q (WE W σ)) := ⟨k_callS⟩
instance {n : Str} : Stp (tXat K n te σ H Q) (te σ H fun x H1 => ∃ (a C dd : Addr) (fs : List (Str × V)) (v : V), x = .ref a ∧ H1 a = some (ExV (.ref C) (some dd) a) ∧ XfC K C ∧ PySem.W.findIn K (.ref C) n = some none ∧ H1 dd = some (.xd fs) ∧ fs.lookup n = some v ∧ Q v H1) := ⟨k_xat⟩
instance : Stp (tRaiseP C E D σ H) (E (.ref C) none H) := ⟨k_raiseP⟩
/-- what follows a caught exception is shown once -/
theorem tryjoin {i j : Nat} {tb : WX → TS} (G : Value → Option Addr → L2.St → Hp → Prop) (rest : ∀ cls d σ' H', G cls d σ' H' → wKept K (.ref C) i (fun _ _ _ => tAsg (tVar i) (gName j)) (fun _ _ _ _ => False) D cls d σ' H')
    (h : (∀ cls d σ' H', G cls d σ' H' → wKept K (.ref C) i (fun _ _ _ => tAsg (tVar i) (gName j)) (fun _ _ _ _ => False) D cls d σ' H') → tTryK K (.ref C) i j tb D σ H) : tTryK K (.ref C) i j tb D σ H := h rest
end
section
variable {P : Program} {w : World} {K : PySem.W.Frag} {mg : Str → Option Value} {base : Heap}
/-- such an __init__ keeps its promise; msg, f: its texts -/
theorem init_reads {C B : Addr} {f : Str} {msg : V} {v0 v1 : V} {H : Hp} {Q : VK} (O : OexC K C) (hno : PySem.W.findIn K (.ref C) f = some none) (h : prInit C f v0 v1 H Q) :
    tSeq (tDrop (tVeI K (tCons (tVar 0) (tCons (tC msg) tNil)))) (tOst K f (tVar 0) (tVar 1)) { nx := fun _ H' => Q .non H', rt := Q } [some v0, some v1] H := by
  obtain ⟨a, rfl, ea, q⟩ := h
  refine ⟨_, rfl, a, C, [msg], rfl, (by show 1 ≤ 1000; decide), O, ea, ?_⟩
  exact ⟨_, rfl, _, rfl, a, C, rfl, O, hno, .inl ⟨ea, fun dx nd ne => q dx nd ne⟩⟩
end
end Cm

namespace Cm
open PySem PySem.Spec PyProof.Rows L2

/-! ### how many unlike ints -/
def unl (ns : List Int) : Nat := (PyProof.Rows.firstMet (fun i => ns.getD i 0) ns.length).length
theorem unl_le (ns : List Int) : unl ns ≤ ns.length := PyProof.Rows.firstMet_length_le _ _
def tLenU (K : PySem.W.Frag) (ta : TE) : TE := fun σ H Q => ta σ H fun x H1 => ∃ (l : Addr) (ns : List Int), x = .ref l ∧ SqL K H1 l (ns.map V.int) ∧ ns.length ≤ 4000 ∧ Q (.int (unl ns : Nat)) H1
theorem pe_lenU {X : Cx} {a : Expr} {ta : TE} {p p2 q pos : Pos} (cm : X.calm = true) (gl : Gl X "len") (ml : X.mg "len" = none) (gs : Gl X "set") (ms : X.mg "set" = none) (pa : PE X a ta)
    (se : starEach [a] X.env = (false, eval a X.env) :: starEach [] X.env := by rfl) : PE X (.Call (.Name "len" p) [.Call (.Name "set" p2) [a] [] q] [] pos) (tLenU X.K ta) := by
  constructor
  intro pins s σ H Q I h
  refine Call_ (ld_blt I gl ml boot_len (PyProof.Rows.callWith_builtin1 (PyProof.Rows.args_cons ?_ rfl) rfl rfl))
  refine Call_ (ld_blt I gs ms boot_set (PyProof.Rows.callWith_type1 (PyProof.Rows.args_cons (thn (pa.run pins s σ H _ I h) fun v s1 ⟨x, H1, J, rx, qx⟩ => PyProof.Rows.args_nil ?_) se) se rfl))
  obtain ⟨l, ns, rfl, hq, hl, qx⟩ := qx
  cases rx
  obtain ⟨its, rv, pl, hz⟩ := J.list hq
  have sz1 : its.toArray.size = ns.length := by rw [List.size_toArray, ← rv.length, List.length_map]
  refine call_set_list (J.ok.hd cm) pl.isList (by simpa using RZ.intsAre_vals rv) (by rw [sz1]; unfold scanBound; omega) fun h' tk hS hk => PyProof.Rows.args_nil ?_
  rw [sz1] at hS
  obtain ⟨o, es, ep, t, ho, hex, hd, _, _, _, hf, hn⟩ := hS
  have J2 : Inv X pins σ H1 { s1 with heap := h', toks := tk } := J.kept fun b o e => hk b o (Heap.lt_size e) e
  have hu := unl_le ns
  exact call_len_set ho hex hd hf (by rw [hn]; unfold unl at hu; omega) ⟨.int (unl ns : Nat), H1, J2.tok _, ⟨_, by rw [hn]; rfl⟩, qx⟩

section
variable {K : PySem.W.Frag} {σ : L2.St} {H1 : Hp} {g : TG} {tt : TT} {te : TE} {vs : List Nat}
/-- over a tuple, new objects may be made -/
theorem lc_growT {QD : Addr → Hp → Prop} {α : Type} {a : Addr} {xs : List V} (hs : SqT K H1 a xs) (ps : List α) (hl : xs.length = ps.length) (hz : ps.length ≤ 50000) (f : α → Option V)
    (step : ∀ (i : Nat) x p H', xs[i]? = some x → ps[i]? = some p → Same H1 H' → ∀ (R : V → Hp → Prop) (R0 : Hp → Prop), (∀ y H'', f p = some y → Same H' H'' → R y H'') → (∀ H'', f p = none → Same H' H'' → R0 H'') →
      g x (wipe σ vs) H' fun σ2 H2 => wipe σ2 vs = wipe σ vs ∧ tt σ2 H2 fun b H3 => if b = true then te σ2 H3 R else R0 H3)
    (h : ∀ D H', H1 D = none → Same H1 H' → H' D = some (.lst (ps.filterMap f)) → QD D H') :
    ∃ a', V.ref a = .ref a' ∧ (∃ xs, SqT K H1 a' xs) ∧ ∀ D, H1 D = none → ∃ W : Nat → Nat → Hp → Prop, (∃ m, W 0 m (upd H1 D (.lst []))) ∧ ∀ i m H, W i m H →
      ((Itt K a').stop i H ∧ QD D H) ∨ ((Itt K a').go i H ∧ ∃ Nx : Hp → Prop, (∀ H', Nx H' → ∃ m', m' < m ∧ W (i + 1) m' H') ∧ ∀ x H', (Itt K a').yld i H x H' → g x (wipe σ vs) H' fun σ2 H2 => wipe σ2 vs = wipe σ vs ∧ tt σ2 H2 fun b H3 =>
        if b = true then te σ2 H3 fun y H4 => ∃ acc, H4 D = some (.lst acc) ∧ acc.length < sizeLine ∧ Nx (upd H4 D (.lst (acc ++ [y]))) else Nx H3) := by
  refine ⟨a, rfl, ⟨xs, hs⟩, fun D nD => lc_tup (xs := xs) (fun i H => Same H1 H ∧ H D = some (.lst ((ps.take i).filterMap f))) ⟨same_new nD, by rw [upd_same]; simp⟩ (fun i H _ e => same_seqT e.1 hs) ?_ ?_⟩
  · rintro i x H hx ⟨sm, hD⟩
    have hi : i < xs.length := (List.getElem?_eq_some_iff.mp hx).1
    obtain ⟨p, hp⟩ : ∃ p, ps[i]? = some p := ⟨ps[i]'(by omega), List.getElem?_eq_getElem (by omega)⟩
    have tk := take_filterMap (f := f) hp
    refine step i x p H hx hp sm _ _ (fun y H'' hy s2 => ⟨_, s2 _ _ hD, szl ?_, same_mut (sm.trans s2) nD, ?_⟩) (fun H'' hn s2 => ⟨sm.trans s2, ?_⟩)
    · have := List.length_filterMap_le f (ps.take i)
      rw [List.length_take] at this
      omega
    · rw [upd_same, tk, hy]; rfl
    · rw [tk, hn, s2 _ _ hD]; simp
  · rintro H ⟨sm, hD⟩
    rw [hl, List.take_length] at hD
    exact h D H nD sm hD
end
theorem k_ixN {K : PySem.W.Frag} {H : Hp} {Q : VK} {p : Addr} {ns : List Int} {i : Nat} {x : Int} (hs : SqL K H p (ns.map V.int)) (hx : ns[i]? = some x) (h : Q (.int x) H) : rIxL K (.ref p) (.int i) H Q := k_ixL hs (atI_nat (by rw [List.getElem?_map, hx]; rfl)) h
theorem fm_map {α : Type} (f : α → V) (l : List α) : l.filterMap (fun x => some (f x)) = l.map f := by
  rw [show (fun x => some (f x)) = some ∘ f from rfl, List.filterMap_eq_map]

/-- what follows a statement is shown once, and lies out of sight meanwhile -/
theorem seqO {s1 s2 : TS} {σ : L2.St} {H : Hp} {nx bk ct : L2.St → Hp → Prop} {rt : VK} (G : L2.St → Hp → Prop) (main : ∀ σ H, G σ H → s2 ⟨nx, rt, bk, ct⟩ σ H) (h : ∀ nx' : L2.St → Hp → Prop, (∀ σ H, G σ H → nx' σ H) → s1 ⟨nx', rt, bk, ct⟩ σ H) : tSeq s1 s2 ⟨nx, rt, bk, ct⟩ σ H := h _ main
/-- the last statement of a block -/
theorem lastO {s1 : TS} {σ : L2.St} {H : Hp} {nx bk ct : L2.St → Hp → Prop} {rt : VK} (G : L2.St → Hp → Prop) (main : ∀ σ H, G σ H → nx σ H) (h : ∀ nx' : L2.St → Hp → Prop, (∀ σ H, G σ H → nx' σ H) → s1 ⟨nx', rt, bk, ct⟩ σ H) : s1 ⟨nx, rt, bk, ct⟩ σ H := h _ main

/-! ### texts -/
def rStrInt : List V → Hp → VK → Prop := fun xs H Q => ∃ i : Int, xs = [.int i] ∧ i.natAbs.log2 < 1920 ∧ Q (.str (toString i)) H
theorem q_strI {X : Cx} : CallR X (.type "str") rStrInt := call_str_int
def xAddS : R2 := fun x y H Q => ∃ i j, x = .str i ∧ y = .str j ∧ i.length + j.length ≤ sizeLine ∧ Q (.str (i ++ j)) H
def rJoin (K : PySem.W.Frag) : V → List V → Hp → VK → Prop := fun x xs H Q => ∃ a p, ∃ ys : List Str, x = .str a ∧ xs = [.ref p] ∧ (SqL K H p (ys.map V.str) ∨ SqT K H p (ys.map V.str)) ∧ (ys.map (·.length)).sum + ys.length * a.length ≤ 16777216 ∧ Q (.str (Txt.join a ys)) H
/-- the signs of a text -/
abbrev sg (s : Str) : List Nat := TL.tl s
def mkS (l : List Nat) : Str := ⟨l.toArray⟩
theorem sg_mkS (l : List Nat) : sg (mkS l) = l := rfl
theorem mkS_sg (s : Str) : mkS (sg s) = s := TL.ext_tl rfl
theorem mkS_inj {l m : List Nat} : mkS l = mkS m ↔ l = m := ⟨fun h => by have := congrArg sg h; rwa [sg_mkS, sg_mkS] at this, fun h => by rw [h]⟩
/-- the signs of a whole number -/
def nu (i : Int) : List Nat := sg (Str.ofString (toString i))
section
variable {K : PySem.W.Frag} {σ : L2.St} {H : Hp} {Q : VK} {to te : TE}
instance {r : V → List V → Hp → VK → Prop} : Stp (tM1 r to te σ H Q) (to σ H fun x H1 => (∃ a, x = .str a) ∧ te σ H1 fun y H2 => r x [y] H2 Q) := ⟨fun h => h⟩
instance {r : V → List V → Hp → VK → Prop} : Stp (tM0 r to σ H Q) (to σ H fun x H1 => (∃ a, x = .str a) ∧ r x [] H1 Q) := ⟨fun h => h⟩
instance {s : Str} {R : Prop} : Stp ((∃ a, V.str s = .str a) ∧ R) R := ⟨fun h => ⟨⟨s, rfl⟩, h⟩⟩
instance : Stp (tLenU K te σ H Q) (te σ H fun x H1 => ∃ (l : Addr) (ns : List Int), x = .ref l ∧ SqL K H1 l (ns.map V.int) ∧ ns.length ≤ 4000 ∧ Q (.int (unl ns : Nat)) H1) := ⟨fun h => h⟩
theorem k_lenU {l : Addr} {ns : List Int} (hs : SqL K H l (ns.map V.int)) (hl : ns.length ≤ 4000) (h : Q (.int (unl ns : Nat)) H) : ∃ (l' : Addr) (ns : List Int), V.ref l = .ref l' ∧ SqL K H l' (ns.map V.int) ∧ ns.length ≤ 4000 ∧ Q (.int (unl ns : Nat)) H := ⟨l, ns, rfl, hs, hl, h⟩
/-- a number of at most thirty figures -/
def Num30 (i : Int) : Prop := 0 ≤ i ∧ i < 10 ^ 30
theorem log_lt {n : Nat} (h : n < 2 ^ 1900) : n.log2 < 1920 := by
  by_cases c : n = 0
  · subst c; decide
  · have := (Nat.log2_lt c (k := 1900)).mpr h
    omega
theorem k_strI {i : Int} (h0 : i.natAbs < 2 ^ 1900) (h : Q (.str (mkS (nu i))) H) : rStrInt [.int i] H Q := ⟨i, rfl, log_lt h0, by unfold nu at h; rw [mkS_sg] at h; exact h⟩
theorem len_sg (s : Str) : s.length = (sg s).length := TL.len_tl s
theorem k_addS {s t : Str} (hz : (sg s).length + (sg t).length ≤ 100000) (h : Q (.str (mkS (sg s ++ sg t))) H) : xAddS (.str s) (.str t) H Q := ⟨s, t, rfl, rfl, by rw [len_sg, len_sg]; exact sz hz, by
  have e : s ++ t = mkS (sg s ++ sg t) := TL.ext_tl (TL.tl_append s t)
  rw [e]; exact h⟩
theorem k_join {s : Str} {p : Addr} {ys : List Str} (hp : SqL K H p (ys.map V.str)) (hz : (ys.map (·.length)).sum + ys.length * s.length ≤ 16777216) (h : Q (.str (mkS (TL.joinL (sg s) (ys.map sg)))) H) : rJoin K (.str s) [.ref p] H Q :=
  ⟨s, p, ys, rfl, rfl, .inl hp, hz, by
    have e : Txt.join s ys = mkS (TL.joinL (sg s) (ys.map sg)) := TL.ext_tl (by rw [TL.join_eq]; exact TL.tl_join s ys)
    rw [e]; exact h⟩
theorem k_isiS {s : Str} (h : Q (.bl true) H) : rIsi K [.str s, .ty "str"] H Q := k_isi (.base (.str s)) (by decide +kernel) h
end
/-! ### more of texts -/
def g_tokS (mg : Str → Option Value) (x : Str) : Tok := match mg x with
  | some (.str _ t) => t
  | _ => default
theorem tok_mkS {mg : Str → Option Value} {x n : Str} {t : Tok} (h : mg x = some (.str n t)) : mg x = some (.str n (g_tokS mg x)) := by
  unfold g_tokS
  rw [h]
theorem q_isiT {X : Cx} : CallR X (.builtin "isinstance") (rIsiT X.K) := call_isiT
def rLenStr : List V → Hp → VK → Prop := fun xs H Q => ∃ z : Str, xs = [.str z] ∧ z.length ≤ sizeLine ∧ Q (.int z.length) H
theorem q_lenS {X : Cx} : CallR X (.builtin "len") rLenStr := call_len_str
def xInS : R2 := fun x y H Q => ∃ i j, x = .str i ∧ y = .str j ∧ Q (.bl (!(Builtin.Str.occurrences j i 0 j.length 1).isEmpty)) H
def xNotInS : R2 := fun x y H Q => ∃ i j, x = .str i ∧ y = .str j ∧ Q (.bl (!(!(Builtin.Str.occurrences j i 0 j.length 1).isEmpty))) H
def rFind : V → List V → Hp → VK → Prop := fun x xs H Q => ∃ a b, x = .str a ∧ xs = [.str b] ∧ Q (.int (Txt.find a b)) H
def rSplit : V → List V → Hp → VK → Prop := fun x xs H Q => ∃ a b, x = .str a ∧ xs = [.str b] ∧ (b.length == 0) = false ∧ a.length + 2 ≤ sizeLine ∧ rNewStrs (Txt.split a b) H Q
section
variable {K : PySem.W.Frag} {σ : L2.St} {H : Hp} {Q : VK} {te : TE}
instance {R : It → Hp → Prop} : Stp (iStr te σ H R) (te σ H fun v H1 => ∃ x, v = .str x ∧ R (Its x) H1) := ⟨fun h => h⟩
theorem k_lenS {l : List Nat} (hl : l.length ≤ 100000) (h : Q (.int (l.length : Nat)) H) : rLenStr [.str (mkS l)] H Q := ⟨_, rfl, by rw [len_sg, sg_mkS]; exact sz hl, by rw [len_sg, sg_mkS]; exact h⟩
theorem k_notInS {l : List Nat} {c : Nat} (h : Q (.bl (!decide (c ∈ l))) H) : xNotInS (.str ⟨#[c]⟩) (.str (mkS l)) H Q := ⟨_, _, rfl, rfl, by
  rw [StrLaws.found_one]; exact h⟩
theorem k_inS {l : List Nat} {c : Nat} (h : Q (.bl (decide (c ∈ l))) H) : xInS (.str ⟨#[c]⟩) (.str (mkS l)) H Q := ⟨_, _, rfl, rfl, by
  rw [StrLaws.found_one]; exact h⟩
theorem k_split {l : List Nat} {s : Str} {ps : List (List Nat)} (hl : l.length ≤ 99000) (hs : s.length ≠ 0) (hp : Txt.split (mkS l) s = ps.map mkS) (h : ∀ p H', H p = none → Same H H' → H' p = some (.lst (ps.map fun q => V.str (mkS q))) → Q (.ref p) H') : rSplit (.str (mkS l)) [.str s] H Q :=
  ⟨_, _, rfl, rfl, by simpa using hs, by rw [len_sg, sg_mkS]; exact sz (by omega), fun p np => h p _ np (same_new np) (by rw [upd_same, hp, List.map_map]; rfl)⟩
theorem k_ixS {l : List Nat} {i : Nat} {c : Nat} (hl : l.length ≤ 100000) (hc : l[i]? = some c) (h : Q (.str ⟨#[c]⟩) H) : rIxS (.str (mkS l)) (.int i) H Q := ⟨_, _, c, rfl, rfl, by rw [len_sg, sg_mkS]; exact sz hl, atI_nat hc, h⟩
end
theorem split_one {s : Nat} {ps : List (List Nat)} (hs : s < 256) (hne : ps ≠ []) (hp : ∀ p ∈ ps, s ∉ p) : Txt.split (mkS (TL.joinL [s] ps)) ⟨#[s]⟩ = ps.map mkS := by
  have e : mkS (TL.joinL [s] ps) = Txt.join ⟨#[s]⟩ (ps.map mkS) := TL.ext_tl (by
    rw [TL.join_eq, TL.tl_join, List.map_map]
    show TL.joinL [s] ps = TL.joinL [s] (ps.map (TL.tl ∘ mkS))
    rw [show (TL.tl ∘ mkS) = id from rfl, List.map_id])
  rw [e]
  refine TL.split_join (s := s) (S := []) rfl (by simp [hs]) (by simpa using hne) fun p h => ?_
  obtain ⟨q, hq, rfl⟩ := List.mem_map.mp h
  exact hp q hq
/-- rows, each with its end, and what stands behind the last end -/
theorem rows_join (rs : List (List Nat)) (e : Nat) (z : List Nat) : (rs.map fun r => r ++ [e]).flatten ++ z = TL.joinL [e] (rs ++ [z]) := by
  induction rs with
  | nil => rfl
  | cons r t ih =>
    have : TL.joinL [e] (r :: (t ++ [z])) = r ++ ([e] ++ TL.joinL [e] (t ++ [z])) := by
      cases t <;> rfl
    rw [List.cons_append, this, ← ih]
    simp
theorem sg_str (s : String) : sg (Str.ofString s) = s.toList.map Char.toNat := TL.tl_ofString s
theorem nu_nat (n : Nat) : nu (n : Int) = TL.numL n := TL.tl_num n
theorem nu_len {i : Int} (h : 0 ≤ i) {k : Nat} (k0 : 0 < k) (h1 : i < 10 ^ k) : (nu i).length ≤ k := by
  obtain ⟨n, rfl⟩ := Int.eq_ofNat_of_zero_le h
  rw [nu_nat]
  unfold TL.numL
  rw [List.length_map]
  refine (Nat.length_toDigits_le_iff (by decide) k0).mpr ?_
  have : ((n : Nat) : Int) < ((10 ^ k : Nat) : Int) := by rw [Int.natCast_pow]; exact h1
  exact Int.ofNat_lt.mp this
/-- signs behind one another -/
theorem joinL_nil (ps : List (List Nat)) : TL.joinL [] ps = ps.flatten := by
  induction ps with
  | nil => rfl
  | cons p r ih => cases r with
    | nil => simp [TL.joinL]
    | cons q r => show p ++ ([] ++ TL.joinL [] (q :: r)) = _; rw [ih]; simp
theorem joinL_cons (S p : List Nat) (r : List (List Nat)) : TL.joinL S (p :: r) = p ++ (r.map fun q => S ++ q).flatten := by
  induction r generalizing p with
  | nil => simp [TL.joinL]
  | cons q r ih => show p ++ (S ++ TL.joinL S (q :: r)) = _; rw [ih]; simp
theorem sum_le {l : List Nat} {b : Nat} (h : ∀ x ∈ l, x ≤ b) : l.sum ≤ l.length * b := by
  induction l with
  | nil => simp
  | cons x r ih =>
    have h1 := ih fun y hy => h y (List.mem_cons_of_mem _ hy)
    have h2 := h x List.mem_cons_self
    rw [List.sum_cons, List.length_cons, Nat.add_mul]
    omega
theorem flat_le {l : List (List Nat)} {b : Nat} (h : ∀ x ∈ l, x.length ≤ b) : l.flatten.length ≤ l.length * b := by
  rw [List.length_flatten]
  have := sum_le (l := l.map List.length) (b := b) fun x hx => by
    obtain ⟨y, hy, rfl⟩ := List.mem_map.mp hx
    exact h y hy
  rw [List.length_map] at this
  exact this
end Cm

namespace Cm
open PySem PySem.Spec PyProof.Rows L2

/-! ### max(d.values()) -/
def tMaxVals (td : TE) : TE := fun σ H Q => td σ H fun x H1 => ∃ (a : Addr) (kvs : List (Key × V)) (is : List Int), x = V.ref a ∧ H1 a = some (.dK kvs) ∧ kvs.map (·.2) = is.map V.int ∧ is ≠ [] ∧ ∀ m, m ∈ is → (∀ j ∈ is, j ≤ m) → Q (.int m) H1
theorem pe_maxVals {X : Cx} {o : Expr} {p pos apos mpos : Pos} {td : TE} (hc : X.calm = true) (hg : Gl X "max") (hm : X.mg "max" = none) (hd : PE X o td) (hbase : attributeBase o "values" X.env (eval o X.env) = eval o X.env := by rfl) (hline : (apos.endLine == mpos.line) = true := by rfl)
    (hse : starEach [Expr.Call (.Attribute o "values" apos) [] [] mpos] X.env = [(false, eval (Expr.Call (.Attribute o "values" apos) [] [] mpos) X.env)] := by rfl) :
    PE X (.Call (.Name "max" p) [.Call (.Attribute o "values" apos) [] [] mpos] [] pos) (tMaxVals td) := by
  constructor
  intro pins s σ H Q I h
  refine wpAny_Call_Name_kw (ld_blt I hg hm (u := .builtin "max") (by first | rfl | decide +kernel) ?_ (by first | decide +kernel | decide) (by first | decide +kernel | decide))
  rw [hse]
  refine PySem.callWith_builtin1 (wpAny_Call_method0_late hbase hline (thn (hd.run pins s σ H _ I h) ?_))
  rintro v s1 ⟨x, H1, I1, r1, a, kvs, is, rfl, ha, hv, hne, q⟩
  obtain rfl : v = Value.ref a := r1
  obtain ⟨_, hsys, vs, rel, dof⟩ := dk_of I1.hok ha
  obtain ⟨ep, dat⟩ := dof.dictAt
  obtain ⟨ob, es, ho, ex, hdat, hko, hpr, hnd⟩ := id dat
  have lv : vs.length = is.length := by
    have e1 : kvs.length = is.length := by simpa using congrArg List.length hv
    rw [← e1]; exact (KV.length rel).symm
  have l0 : 0 < is.length := List.length_pos_iff.mpr hne
  have vals : ∀ (i : Nat) (v : Value), (∃ k, vs[i]? = some (k, v)) → ∃ t, v = Value.int (is.getD i 0) t := by
    rintro i v ⟨k, hk⟩
    obtain ⟨x, h1, h2⟩ := KV.at' rel hk
    have e1 : (is.map V.int)[i]? = some x := by rw [← hv, List.getElem?_map, h1] <;> rfl
    rw [List.getElem?_map] at e1
    obtain ⟨j, hj, rfl⟩ := Option.map_eq_some_iff.mp e1
    obtain ⟨t, e3⟩ := h2
    exact ⟨t, by rw [e3, List.getD_eq_getElem?_getD, hj] <;> rfl⟩
  refine ⟨"dict", "dict.values", F.plainAttrs_dict, F.slot_dict_values, F.type_dict_values, ⟨ob, ho, ex.1⟩, fun b e => by cases e; exact ⟨ob, ho, ex.2.1⟩, Calls.callWith_builtin rfl (PySem.evalArgs_none ?_)⟩
  refine call_meetsIn F.slot_dict_values ⟨ob, ho, ex.1⟩ F.entry_dict_values (F.args_dict_values_1 _) (meets_dict_values (mixKind X.prog X.w) a hsys) ⟨⟨vs, dof⟩, ?_⟩
  have up : ∀ b u, s1.heap.get? b = some u → (s1.heap.push { cls := .type "dict_values", data := .fields #[.ref a] }).get? b = some u := fun b u e => Heap.get?_push_of_some _ e
  have dat1 := dat.keep up
  have alt : a < s1.heap.objs.size := Heap.lt_size ho
  have sz : (s1.heap.push { cls := .type "dict_values", data := .fields #[.ref a] }).objs.size = s1.heap.objs.size + 1 := Heap.size_push _ _
  refine call_max_walk (wpAny_pyIter_values (v := s1.heap.objs.size) (d := a) ⟨_, Heap.get?_push_size _ rfl, rfl, rfl⟩ dat1 ?_)
  refine ⟨_, _, _, _, _, _, _, rfl, Walks.dictValues (knd := mixKind X.prog X.w) (A := X.A.in1) (I.ok.hd hc) (s1.heap.push { cls := .type "dict_values", data := .fields #[.ref a] }).objs.size a (by rw [sz]; exact Nat.ne_of_lt (Nat.lt_succ_of_lt alt)) vs ep,
    ⟨⟨_, Heap.get?_push_size _ rfl, rfl, rfl⟩, dat1.keep fun b u e => Heap.get?_push_of_some _ e⟩, ?_, by omega, CmpOf.ints_gt (fun i => is.getD i 0) vals, ?_⟩
  · intro b hb
    show b < ((s1.heap.push _).push _).objs.size
    rw [Heap.size_push, Heap.size_push]
    rw [sz] at hb
    rcases List.mem_cons.mp hb with e | hb
    · rw [e]; exact Nat.lt_succ_self _
    · rw [show b = a from List.mem_singleton.mp hb]
      exact Nat.lt_succ_of_lt (Nat.lt_succ_of_lt alt)
  · intro v h' tk hP hk
    obtain ⟨t, rfl⟩ := vals _ v hP
    obtain ⟨b1, b2⟩ := argBest_gt (fun i => is.getD i 0) (vs.length - 1)
    refine ⟨.int _, H1, I1.kept (t' := tk) fun b u e => hk b u (fun hmem => ?_) (Heap.get?_push_of_some _ (up b u e)), ⟨t, rfl⟩, q _ ?_ ?_⟩
    · have e1 := List.mem_singleton.mp hmem
      have e2 := Heap.lt_size e
      rw [sz] at e1
      rw [e1] at e2
      exact Nat.lt_irrefl _ (Nat.lt_of_lt_of_le e2 (Nat.le_succ _))
    · have hb : argBest (fun i j => decide (is.getD i 0 > is.getD j 0)) (vs.length - 1) < is.length := by omega
      rw [List.getD_eq_getElem?_getD, List.getElem?_eq_getElem hb]
      exact List.getElem_mem hb
    · intro j hj
      obtain ⟨i, hi, rfl⟩ := List.mem_iff_getElem.mp hj
      have e2 : is.getD i 0 = is[i] := by rw [List.getD_eq_getElem?_getD, List.getElem?_eq_getElem hi] <;> rfl
      rw [← e2]
      exact b2 i (by omega)

/-! ### fields and methods of an instance -/
section
variable {K : PySem.W.Frag} {σ : L2.St} {H : Hp} {Q : VK} {ta tv : TE} {t : TA} {f m : Str} {a C dx : Addr} {fs : List (Str × V)}
/-- x.f is read -/
def gF (K : PySem.W.Frag) (f : Str) (x : V) (H : Hp) (Q : VK) : Prop := ∃ a C dx fs v, x = .ref a ∧ H a = some (.ins C dx fs) ∧ Cls K C ∧ NoAttr K C f ∧ fs.lookup f = some v ∧ Q v H
instance : Stp (tFld K ta f σ H Q) (ta σ H fun x H1 => gF K f x H1 Q) := ⟨id⟩
theorem k_gF {v : V} (e : H a = some (.ins C dx fs)) (c : Cls K C) (n : NoAttr K C f) (l : fs.lookup f = some v) (h : Q v H) : gF K f (.ref a) H Q := ⟨a, C, dx, fs, v, rfl, e, c, n, l, h⟩
/-- x.f = y is written -/
def pF (K : PySem.W.Frag) (f : Str) (x y : V) (H : Hp) (N : Hp → Prop) : Prop := ∃ a C dx fs, x = .ref a ∧ H a = some (.ins C dx fs) ∧ Cls K C ∧ NoAttr K C f ∧ fs.length < 1000 ∧ N (upd H a (.ins C dx (putF f y fs)))
instance {nx bk ct : L2.St → Hp → Prop} {rt : VK} : Stp (sFld K ta tv f ⟨nx, rt, bk, ct⟩ σ H) (tv σ H fun y H1 => ta σ H1 fun x H2 => pF K f x y H2 (nx σ)) := ⟨id⟩
theorem k_pF {y : V} {N : Hp → Prop} (e : H a = some (.ins C dx fs)) (c : Cls K C) (n : NoAttr K C f) (l : fs.length < 1000) (h : N (upd H a (.ins C dx (putF f y fs)))) : pF K f (.ref a) y H N := ⟨a, C, dx, fs, rfl, e, c, n, l, h⟩
/-- x.m is a method's call -/
def mF (C : Addr) (m : Str) (x : V) (H : Hp) (P : Prop) : Prop := ∃ a dx fs, x = .ref a ∧ H a = some (.ins C dx fs) ∧ fs.lookup m = none ∧ P
instance {sp : Sp} {E : XK} : Stp (tMeth C m sp [] E ta t σ H Q) (ta σ H fun x H1 => mF C m x H1 (t σ H1 fun vs H2 => sp (x :: vs) H2 Q E)) := ⟨fun h => by
  unfold tMeth
  simp only [List.append_nil]
  exact h⟩
theorem k_mF {P : Prop} (e : H a = some (.ins C dx fs)) (l : fs.lookup m = none) (h : P) : mF C m (.ref a) H P := ⟨a, dx, fs, rfl, e, l, h⟩
/-- a new instance -/
def newI (C : Addr) (sp : Sp) (E : XK) (vs : List V) (H : Hp) (Q : VK) : Prop := ∀ x dx, H x = none → H dx = none → dx ≠ x → sp (.ref x :: vs) (upd (upd H dx (.own x)) x (.ins C dx [])) (fun v H2 => v = .non ∧ Q (.ref x) H2) E
instance {sp : Sp} {E : XK} : Stp (tMake C sp [] E t σ H Q) (t σ H fun vs H1 => newI C sp E vs H1 Q) := ⟨fun h => by
  unfold tMake
  simp only [List.append_nil]
  exact h⟩
end

/-! ### methods and makings that may raise, in a try -/
section
variable {X : Cx} {CX : CXT} {k : Nat} {f C : Addr} {fd : FuncData} {ps : List Str} {sp : Sp} {E : L2.St → XK} {x m : Str} {p pos apos : Pos} {e o : Expr} {es : List Expr} {ta : TE} {t : TA}
def tMtS (C : Addr) (m : Str) (sp : Sp) (E : L2.St → XK) (ta : TE) (t : TA) : TE := fun σ H Q => ta σ H fun x H1 => ∃ a dx fs, x = .ref a ∧ H1 a = some (.ins C dx fs) ∧ fs.lookup m = none ∧ t σ H1 fun vs H2 => sp (x :: vs) H2 Q (E σ)
theorem pe_mtS {pl : Sem Bool} (he : PE X o ta) (c : Cls X.K C) (hm : Meth X.K C m f) (F : FnOk X.prog X.w X.K X.mg X.base CX k f fd ps sp) (hr : Room k X.A) (hb : Binds X.K fd ps []) (hx : ∀ σ, PassesAt CX X σ (E σ)) (ha : PA X (e :: es) t)
    (hst : starEach (e :: es) X.env = (false, eval e X.env) :: starEach es X.env := by rfl) (hpl : (backTo pos (starEach es X.env)).any (·.1) = false := by rfl)
    (ht : eval (.Call (.Attribute o m apos) (e :: es) [] pos) X.env = (do
      let ov ← eval o X.env
      standAt apos.atName
      let (f, first) ← holding [ov] (getMethod ov m pl)
      callWith pos f first (backTo pos (starEach (e :: es) X.env)) (backToKw pos (keywordEach [] X.env))) := by rfl) :
    PE X (.Call (.Attribute o m apos) (e :: es) [] pos) (tMtS C m sp E ta t) := by
  refine ⟨fun pins s σ H Q I h => ?_⟩
  refine PySem.W.methodCall_KW (pl := pl) (thn (he.run pins s σ H _ I h) fun u s1 ⟨x, H1, I1, rx, a, dx, fs, ex, ea, l, q⟩ => ?_) ht
  subst ex
  obtain rfl : u = Value.ref a := rx
  refine getmeth_ok I1 ea c hm l ?_
  refine PySem.W.callWith_K (first := [.ref a]) (h₀ := X.base) I.ok.mod.kin hm.kp (thn (ha.run pos pins s1 σ H1 _ I1 q) fun us s2 ⟨vs, H2, I2, r, q2⟩ => ⟨I2.kIn, ?_⟩) hst hpl
  exact run_fnS (us := .ref a :: us) (vs := .ref a :: vs) F hr hb (hx σ) I2 (.cons rfl r) q2
def tMakeS (C : Addr) (sp : Sp) (E : L2.St → XK) (t : TA) : TE := fun σ H Q => t σ H fun vs H1 => ∀ x dx, H1 x = none → H1 dx = none → dx ≠ x → sp (.ref x :: vs) (upd (upd H1 dx (.own x)) x (.ins C dx [])) (fun v H2 => v = .non ∧ Q (.ref x) H2) (E σ)
theorem pe_makeS (M : Mk X.K C f) (F : FnOk X.prog X.w X.K X.mg X.base CX k f fd ps sp) (hr : Room (k + 1) X.A) (hg : Gl X x) (hm : X.mg x = some (.ref C)) (hb : Binds X.K fd ps []) (hx : ∀ σ, PassesAt CX X σ (E σ))
    (ha : PA X (e :: es) t) (hdb : (x == ("__debug__" : Str)) = false := by decide) (he : starEach (e :: es) X.env = (false, eval e X.env) :: starEach es X.env := by rfl) (hpl : (backTo pos (starEach es X.env)).any (·.1) = false := by rfl) :
    PE X (.Call (.Name x p) (e :: es) [] pos) (tMakeS C sp E t) := by
  refine ⟨fun pins s σ H Q I h => ?_⟩
  refine wpAny_Call_Name_kw (ld_glob I hg hm ?_ hdb)
  refine PySem.W.callWith_K (h₀ := X.base) I.ok.mod.kin M.kp (thn (ha.run pos pins s σ H _ I h) fun us s1 ⟨vs, H1, I1, r, q⟩ => ⟨I1.kIn, ?_⟩) he hpl
  have hq := q (s1.heap.objs.size + 1) s1.heap.objs.size (I1.hok.fresh (Nat.le_succ _)) (I1.hok.fresh (Nat.le_refl _)) (Nat.ne_of_lt (Nat.lt_succ_self _))
  have I2 := Inv.made (C := C) I1
  have r2 : Vals (V.ref (s1.heap.objs.size + 1) :: vs) (Value.ref (s1.heap.objs.size + 1) :: us) := .cons rfl r
  have hl : (Value.ref (s1.heap.objs.size + 1) :: us ++ []).length = ps.length := by
    have e := r2.length
    rw [F.len _ _ _ _ hq] at e
    rw [List.append_nil]
    exact e.symm
  have b := hb _ (Value.ref (s1.heap.objs.size + 1) :: us) I2.kIn hl
  rw [List.append_nil] at b
  refine wpAny_call (make_map (f := f) I1.kIn M.makes M.init (beq_iff_eq.mp M.fn) (codeAny_mono (F.run _ X.stack _ _ ⟨Value.ref (s1.heap.objs.size + 1) :: us, []⟩ (Value.ref (s1.heap.objs.size + 1) :: us) _ _ (E σ) (hr.make C us [])
    (I2.env0.make C us []) b r2 hq) fun r s' hq' => ?_))
  cases r with
  | error e => exact hx σ pins _ _ e s' I2 hq'
  | ok fl =>
    cases fl with
    | ret u =>
      obtain ⟨v, H', I3, rv, ev, q3⟩ := I2.after hq'
      subst ev
      exact ⟨rv, ⟨V.ref (s1.heap.objs.size + 1), H', I3, rfl, q3⟩⟩
    | next => exact False.elim hq'
    | brk => exact False.elim hq'
    | cont => exact False.elim hq'
end
section
variable {σ : L2.St} {H : Hp} {Q : VK} {ta : TE} {t : TA} {m : Str} {C : Addr}
instance {sp : Sp} {E : L2.St → XK} : Stp (tMtS C m sp E ta t σ H Q) (ta σ H fun x H1 => mF C m x H1 (t σ H1 fun vs H2 => sp (x :: vs) H2 Q (E σ))) := ⟨id⟩
instance {sp : Sp} {E : L2.St → XK} : Stp (tMakeS C sp E t σ H Q) (t σ H fun vs H1 => newI C sp (E σ) vs H1 Q) := ⟨id⟩
end
/-! ### a comprehension over a range whose items are new things, each by itself -/
section
variable {K : PySem.W.Frag} {σ : L2.St} {H1 : Hp} {Q : VK} {g : TG} {tt : TT} {te : TE} {vs : List Nat}
theorem lc_rowsR {QD : Addr → Hp → Prop} {lo : Int} {n : Nat} (hz : n ≤ 50000) (F : Nat → HO)
    (step : ∀ (i : Nat) H', i < n → Same H1 H' → ∀ (R : V → Hp → Prop) (R0 : Hp → Prop), (∀ p H'', H' p = none → Same H' H'' → H'' p = some (F i) → R (.ref p) H'') →
      g (.int (lo + (i : Nat))) (wipe σ vs) H' fun σ2 H2 => wipe σ2 vs = wipe σ vs ∧ tt σ2 H2 fun b H3 => if b = true then te σ2 H3 R else R0 H3)
    (h : ∀ (D : Addr) (rs : List Addr) (H' : Hp), H1 D = none → Same H1 H' → H' D = some (.lst (rs.map V.ref)) → rs.length = n → rs.Nodup → D ∉ rs → (∀ r ∈ rs, H1 r = none) → (∀ (j : Nat) r, rs[j]? = some r → H' r = some (F j)) → QD D H') :
    ∀ D, H1 D = none → ∃ W : Nat → Nat → Hp → Prop, (∃ m, W 0 m (upd H1 D (.lst []))) ∧ ∀ i m H, W i m H →
      ((Itr lo n).stop i H ∧ QD D H) ∨ ((Itr lo n).go i H ∧ ∃ Nx : Hp → Prop, (∀ H', Nx H' → ∃ m', m' < m ∧ W (i + 1) m' H') ∧ ∀ x H', (Itr lo n).yld i H x H' → g x (wipe σ vs) H' fun σ2 H2 => wipe σ2 vs = wipe σ vs ∧ tt σ2 H2 fun b H3 =>
        if b = true then te σ2 H3 fun y H4 => ∃ acc, H4 D = some (.lst acc) ∧ acc.length < sizeLine ∧ Nx (upd H4 D (.lst (acc ++ [y]))) else Nx H3) := by
  refine fun D nD => lc_range (fun i H => Same H1 H ∧ ∃ rs : List Addr, H D = some (.lst (rs.map V.ref)) ∧ rs.length = i ∧ rs.Nodup ∧ D ∉ rs ∧ (∀ r ∈ rs, H1 r = none) ∧ ∀ (j : Nat) r, rs[j]? = some r → H r = some (F j))
    ⟨same_new nD, [], by rw [upd_same]; rfl, rfl, List.nodup_nil, by simp, (fun r z => by cases z), (fun j r z => by simp at z)⟩ ?_ ?_
  · rintro i H hi ⟨sm, rs, hD, lr, nd, dr, fr, at_⟩
    refine step i H hi sm _ _ (fun p H'' np s2 ep => ⟨_, s2 _ _ hD, szl (by simp; omega), same_mut (sm.trans s2) nD, rs ++ [p], ?_, by simp [lr], ?_, ?_, ?_, ?_⟩)
    · rw [upd_same, List.map_append]; rfl
    · rw [List.nodup_append]
      refine ⟨nd, by simp, fun r hr q hq e => ?_⟩
      rw [List.mem_singleton.mp hq] at e
      subst e
      obtain ⟨j, hj⟩ := List.mem_iff_getElem?.mp hr
      rw [at_ j _ hj] at np
      cases np
    · intro z
      rcases List.mem_append.mp z with z | z
      · exact dr z
      · rw [List.mem_singleton.mp z] at hD
        rw [hD] at np
        cases np
    · intro r hr
      rcases List.mem_append.mp hr with hr | hr
      · exact fr r hr
      · rw [List.mem_singleton.mp hr]; exact sm.free np
    · intro j r hr
      have rD : r ≠ D := fun e => by
        rcases List.mem_append.mp (List.mem_of_getElem? hr) with z | z
        · exact dr (e ▸ z)
        · rw [List.mem_singleton.mp z] at e
          rw [e, hD] at np
          cases np
      rw [upd_ne rD]
      by_cases c : j < rs.length
      · rw [List.getElem?_append_left c] at hr
        exact s2 _ _ (at_ j r hr)
      · have hj : j = i := by
          have := (List.getElem?_eq_some_iff.mp hr).1
          simp at this
          omega
        subst hj
        rw [List.getElem?_append_right (by omega), lr, Nat.sub_self] at hr
        cases hr
        exact ep
  · rintro H ⟨sm, rs, hD, lr, nd, dr, fr, at_⟩
    exact h D rs H nD sm hD lr nd dr fr at_
end
/-! ### dicts with whole numbers for keys -/
section
variable {σ : L2.St} {H : Hp} {Q : VK} {td ty tx tv : TE} {p : Addr} {kvs : List (Key × V)} {t : Int} {v z : V} {nx bk ct : L2.St → Hp → Prop} {rt : VK}
def newD (H : Hp) (Q : VK) : Prop := ∀ p, H p = none → Q (.ref p) (upd H p (.dK []))
instance : Stp (tDNewK σ H Q) (newD H Q) := ⟨id⟩
theorem kD (h : ∀ p H', H p = none → Same H H' → H' p = some (.dK []) → Q (.ref p) H') : newD H Q := fun p np => h p _ np (same_new np) upd_same
def aD (x : V) (H : Hp) (R : Addr → Prop) : Prop := ∃ a, x = .ref a ∧ IsD H a ∧ R a
def gD2 (a : Addr) (y z : V) (H : Hp) (Q : VK) : Prop := ∃ o, DGet H a y o ∧ Q (o.getD z) H
instance : Stp (tDGet2 td ty tx σ H Q) (td σ H fun x H1 => aD x H1 fun a => ty σ H1 fun y H2 => tx σ H2 fun z H3 => gD2 a y z H3 Q) := ⟨id⟩
theorem k_aD {R : Addr → Prop} (e : H p = some (.dK kvs)) (h : R p) : aD (.ref p) H R := ⟨p, rfl, .inl ⟨kvs, .inl e⟩, h⟩
theorem k_gD2 (e : H p = some (.dK kvs)) (h : Q ((valV kvs (.inl t)).getD z) H) : gD2 p (.int t) z H Q := ⟨_, DGet.k (k := .inl t) e, h⟩
def pD (x y v : V) (H : Hp) (N : Hp → Prop) : Prop := ∃ a H4, x = .ref a ∧ DPut H a y v H4 ∧ N H4
instance : Stp (sDPut td ty tv ⟨nx, rt, bk, ct⟩ σ H) (tv σ H fun v H1 => td σ H1 fun x H2 => ty σ H2 fun y H3 => pD x y v H3 (nx σ)) := ⟨id⟩
theorem k_pD {N : Hp → Prop} (e : H p = some (.dK kvs)) (l : kvs.length < 100000) (h : N (upd H p (.dK (putK kvs (.inl t) v)))) : pD (.ref p) (.int t) v H N := ⟨p, _, rfl, DPut.k (k := .inl t) e (szl l), h⟩
def gMx (x : V) (H : Hp) (Q : VK) : Prop := ∃ (a : Addr) (kvs : List (Key × V)) (is : List Int), x = V.ref a ∧ H a = some (.dK kvs) ∧ kvs.map (·.2) = is.map V.int ∧ is ≠ [] ∧ ∀ m, m ∈ is → (∀ j ∈ is, j ≤ m) → Q (.int m) H
instance : Stp (tMaxVals td σ H Q) (td σ H fun x H1 => gMx x H1 Q) := ⟨id⟩
theorem k_gMx {is : List Int} (e : H p = some (.dK kvs)) (hv : kvs.map (·.2) = is.map V.int) (ne : is ≠ []) (h : ∀ m, m ∈ is → (∀ j ∈ is, j ≤ m) → Q (.int m) H) : gMx (.ref p) H Q := ⟨p, kvs, is, rfl, e, hv, ne, h⟩
end
/-! ### list.insert -/
def rIns : V → List V → Hp → VK → Prop := fun x vs H Q => ∃ (l : Addr) (xs : List V) (i : Int) (y : V), x = .ref l ∧ vs = [.int i, y] ∧ H l = some (.lst xs) ∧ xs.length < sizeLine ∧ 0 ≤ i ∧ i < 2 ^ 63 ∧ Q .non (upd H l (.lst (xs.take i.toNat ++ [y] ++ xs.drop i.toNat)))
theorem k_ins {H : Hp} {Q : VK} {l : Addr} {xs : List V} {i : Int} {y : V} (e : H l = some (.lst xs)) (hl : xs.length < 100000) (h0 : 0 ≤ i) (h1 : i < 1000000) (h : Q .non (upd H l (.lst (xs.take i.toNat ++ [y] ++ xs.drop i.toNat)))) : rIns (.ref l) [.int i, y] H Q := ⟨l, xs, i, y, rfl, rfl, e, szl hl, h0, by omega, h⟩
/-! ### reads of a dict, loops over its keys -/
section
variable {σ : L2.St} {H : Hp} {Q : VK} {td ty : TE} {p : Addr} {kvs : List (Key × V)} {t : Int} {v : V} {nx bk ct : L2.St → Hp → Prop} {rt : VK}
def gD1 (x y : V) (H : Hp) (Q : VK) : Prop := ∃ a v, x = .ref a ∧ DGet H a y (some v) ∧ Q v H
instance : Stp (tDGet td ty σ H Q) (td σ H fun x H1 => ty σ H1 fun y H2 => gD1 x y H2 Q) := ⟨id⟩
theorem k_gD1 (e : Rd H p (.dK kvs)) (hv : valV kvs (.inl t) = some v) (h : Q v H) : gD1 (.ref p) (.int t) H Q := ⟨p, v, rfl, .inl ⟨kvs, .inl t, e, rfl, hv.symm⟩, h⟩
theorem upd_self {H : Hp} {d : Addr} {u : HO} (h : H d = some u) : upd H d u = H := by
  funext b
  unfold upd
  split
  · rename_i e; rw [e, h]
  · rfl
/-- a for over the keys of a dict of numbers; the heap stays -/
theorem forD {g : TG} {tb : TS} {D : Ends} (hd : H p = some (.dK kvs)) (Pv : Nat → L2.St → Prop) (h0 : Pv 0 σ)
    (htd : ∀ (R : V → Hp → Prop) od, R (.ref p) (upd H p (.frz od (.dK kvs))) → td σ (upd H p (.frz od (.dK kvs))) R)
    (hs : ∀ (od : Obj) (i : Nat) k v σ, kvs[i]? = some (k, v) → Pv i σ → ∀ (N B C : L2.St → Hp → Prop) (rt : VK), (∀ σ', Pv (i + 1) σ' → N σ' (upd H p (.frz od (.dK kvs)))) → (∀ v, D.rt v H → rt v (upd H p (.frz od (.dK kvs)))) →
      g (kV k) σ (upd H p (.frz od (.dK kvs))) fun σ2 H2 => tb ⟨N, rt, B, C⟩ σ2 H2)
    (fin : ∀ σ', Pv kvs.length σ' → D.nx σ' H) : tLock (tFor (iKeys td) g tb) D σ H := by
  refine ⟨p, .dK kvs, hd, trivial, fun od => ?_⟩
  refine htd _ od ⟨p, od, rfl, .inl ⟨kvs, upd_same, ?_⟩⟩
  have back : upd (upd H p (.frz od (.dK kvs))) p (.dK kvs) = H := by rw [upd_upd, upd_self hd]
  refine for_it walk_keys (fun i σ' H' => H' = upd H p (.frz od (.dK kvs)) ∧ Pv i σ') ⟨rfl, h0⟩ (fun i σ' H' _ e => by rw [e.1]; exact upd_same) ?_ ?_
  · rintro i x σ' H' H'' hi ⟨rfl, pv⟩ ⟨rfl, k, v, hkv, rfl⟩
    exact hs od i k v σ' hkv pv _ _ _ _ (fun σ' h => ⟨rfl, h⟩) (fun v h => ⟨upd_same, by rw [back]; exact h⟩)
  · rintro σ' H' ⟨rfl, pv⟩
    exact ⟨upd_same, by rw [back]; exact fin σ' pv⟩
end
/-- a dict of counts -/
structure Cnt (kvs : List (Key × V)) (c : Int → Nat) (m : Nat) : Prop where
  isI : ∃ is : List Int, kvs.map (·.2) = is.map V.int
  val : ∀ t, valV kvs (.inl t) = if c t = 0 then none else some (.int (c t : Nat))
  len : kvs.length ≤ m
theorem Cnt.nil : Cnt [] (fun _ => 0) 0 := ⟨⟨[], rfl⟩, fun t => by rw [valV_nil]; rfl, Nat.le_refl _⟩
theorem putK_lenN (c : List (Key × V)) (k : Key) (x : V) : (putK c k x).length ≤ c.length + 1 := by
  unfold putK
  split
  · rw [List.length_map]; omega
  · rw [List.length_append]; simp
theorem mapK_ints {k : Key} {x : Int} : ∀ (kvs : List (Key × V)) (is : List Int), kvs.map (·.2) = is.map V.int → ∃ is : List Int, (kvs.map fun kv => if kv.1 = k then (kv.1, V.int x) else kv).map (·.2) = is.map V.int
  | [], _, _ => ⟨[], rfl⟩
  | a :: r, [], h => by simp at h
  | a :: r, j :: js, h => by
    simp only [List.map_cons, List.cons.injEq] at h
    obtain ⟨is', h'⟩ := mapK_ints r js h.2
    by_cases c : a.1 = k
    · exact ⟨x :: is', by rw [List.map_cons, List.map_cons, if_pos c, h']; rfl⟩
    · exact ⟨j :: is', by rw [List.map_cons, List.map_cons, if_neg c, h', h.1]; rfl⟩
theorem putK_ints {kvs : List (Key × V)} {k : Key} {x : Int} (h : ∃ is : List Int, kvs.map (·.2) = is.map V.int) : ∃ is : List Int, (putK kvs k (.int x)).map (·.2) = is.map V.int := by
  obtain ⟨is, h⟩ := h
  unfold putK
  split
  · exact mapK_ints kvs is h
  · exact ⟨is ++ [x], by rw [List.map_append, List.map_append, h]; rfl⟩
theorem Cnt.put {kvs : List (Key × V)} {c : Int → Nat} {m : Nat} (h : Cnt kvs c m) (t : Int) {x : Int} (hx : x = ((c t + 1 : Nat) : Int)) : Cnt (putK kvs (.inl t) (.int x)) (fun s => if s = t then c s + 1 else c s) (m + 1) := by
  obtain ⟨h1, h2, h3⟩ := h
  refine ⟨putK_ints h1, fun s => ?_, Nat.le_trans (putK_lenN _ _ _) (by omega)⟩
  rw [valV_put]
  by_cases e : s = t
  · subst e
    rw [if_pos rfl, if_pos rfl, if_neg (by omega), hx]
  · rw [if_neg (fun z => e (by simpa using z)), if_neg e]
    exact h2 s
theorem Cnt.get {kvs : List (Key × V)} {c : Int → Nat} {m : Nat} (h : Cnt kvs c m) (t : Int) : (valV kvs (.inl t)).getD (.int 0) = .int (c t : Nat) := by
  rw [h.val t]
  split
  · rename_i e
    rw [e]; rfl
  · rfl
theorem Cnt.mem {kvs : List (Key × V)} {c : Int → Nat} {m : Nat} (h : Cnt kvs c m) {is : List Int} (hi : kvs.map (·.2) = is.map V.int) {t : Int} (ht : c t ≠ 0) : ((c t : Nat) : Int) ∈ is := by
  have hv := h.val t
  rw [if_neg ht] at hv
  unfold valV at hv
  obtain ⟨kv, hk, e⟩ := Option.map_eq_some_iff.mp hv
  have hm : V.int ((c t : Nat) : Int) ∈ is.map V.int := by
    rw [← hi, ← e]
    exact List.mem_map_of_mem (List.mem_of_find?_eq_some hk)
  obtain ⟨y, hy, e2⟩ := List.mem_map.mp hm
  cases e2
  exact hy
theorem Cnt.ext {kvs : List (Key × V)} {c c' : Int → Nat} {m m' : Nat} (h : Cnt kvs c m) (e : ∀ t, c t = c' t) (l : m ≤ m') : Cnt kvs c' m' := by
  obtain rfl : c = c' := funext e
  exact ⟨h.isI, h.val, Nat.le_trans h.len l⟩
/-! ### a list told by its places -/
theorem getR {n l : Nat} {f : Nat → Int} (h : l < n) : ((List.range n).map f)[l]? = some (f l) := by
  rw [List.getElem?_map, List.getElem?_range h]; rfl
theorem setR {n l : Nat} {f : Nat → Int} {v : Int} : ((List.range n).map f).set l v = (List.range n).map fun j => if j = l then v else f j := by
  refine List.ext_getElem? fun k => ?_
  rw [List.getElem?_set]
  by_cases c : l = k
  · subst c
    rw [if_pos rfl]
    by_cases d : l < n
    · rw [if_pos (by simpa using d), getR d, if_pos rfl]
    · rw [if_neg (by simpa using d), List.getElem?_eq_none (by simpa using d)]
  · rw [if_neg c]
    by_cases d : k < n
    · rw [getR d, getR d, if_neg (fun e => c e.symm)]
    · rw [List.getElem?_eq_none (by simpa using d), List.getElem?_eq_none (by simpa using d)]
/-! ### a range with a step; bits to the right -/
instance {σ : L2.St} {H : Hp} {ta : TA} {R : It → Hp → Prop} : Stp (iRng3 ta σ H R) (ta σ H fun vs H1 => ∃ (i j c : Int) (n : Nat), vs = [.int i, .int j, .int c] ∧ RgC i j c n ∧ R (Itc i c n) H1) := ⟨id⟩
theorem forC {σ : L2.St} {H : Hp} {nx : L2.St → Hp → Prop} {rt : VK} {lo c : Int} {n : Nat} {g : TG} {tb : TS} (Pv : Nat → L2.St → Hp → Prop) (h0 : Pv 0 σ H)
    (hs : ∀ (i : Nat) σ H, i < n → Pv i σ H → g (.int (lo + (i : Nat) * c)) σ H fun σ2 H2 => tb ⟨Pv (i + 1), rt, nx, Pv (i + 1)⟩ σ2 H2) (hd : ∀ σ H, Pv n σ H → nx σ H) :
    ∃ W : Nat → Nat → L2.St → Hp → Prop, (∃ m, W 0 m σ H) ∧ ∀ i m σ H, W i m σ H →
      ((Itc lo c n).stop i H ∧ nx σ H) ∨ ((Itc lo c n).go i H ∧ ∃ N : L2.St → Hp → Prop, (∀ σ' H', N σ' H' → ∃ m', m' < m ∧ W (i + 1) m' σ' H') ∧ ∀ x H', (Itc lo c n).yld i H x H' → g x σ H' fun σ2 H2 => tb ⟨N, rt, nx, N⟩ σ2 H2) :=
  for_rangeC (D := ⟨nx, rt, fun _ _ => False, fun _ _ => False⟩) Pv h0 hs hd
def xShr : R2 := rI (fun _ j => 0 ≤ j) fun i j => .int (i / 2 ^ j.toNat)
theorem k_shr {H : Hp} {Q : VK} {i j : Int} (hc : 0 ≤ j) (h : Q (.int (i / 2 ^ j.toNat)) H) : xShr (.int i) (.int j) H Q := ⟨i, j, rfl, rfl, hc, h⟩
/-! ### dict(d), len(d), k in d -/
def rDictD : List V → Hp → VK → Prop := fun xs H Q => ∃ (a : Addr) (kvs : List (Key × V)), xs = [.ref a] ∧ Rd H a (.dK kvs) ∧ ∀ p, H p = none → Q (.ref p) (upd H p (.dK kvs))
theorem q_dictD {X : Cx} : CallR X (.type "dict") rDictD := call_dictD
def rLenD : List V → Hp → VK → Prop := fun xs H Q => ∃ (a : Addr) (kvs : List (Key × V)), xs = [V.ref a] ∧ H a = some (.dK kvs) ∧ Q (.int kvs.length) H
theorem q_lenD {X : Cx} : CallR X (.builtin "len") rLenD := call_lenD
section
variable {σ : L2.St} {H : Hp} {Q : VK} {td ty : TE} {p : Addr} {kvs : List (Key × V)} {t : Int}
def iD (neg : Bool) (y x : V) (H : Hp) (Q : VK) : Prop := ∃ a o, x = .ref a ∧ DGet H a y o ∧ Q (.bl (if neg then !o.isSome else o.isSome)) H
instance : Stp (tDIn ty td σ H Q) (ty σ H fun y H1 => td σ H1 fun x H2 => iD false y x H2 Q) := ⟨id⟩
instance : Stp (tDNotIn ty td σ H Q) (ty σ H fun y H1 => td σ H1 fun x H2 => iD true y x H2 Q) := ⟨id⟩
theorem k_iD {neg : Bool} (e : H p = some (.dK kvs)) (h : Q (.bl (if neg then !(valV kvs (.inl t)).isSome else (valV kvs (.inl t)).isSome)) H) : iD neg (.int t) (.ref p) H Q := ⟨p, _, rfl, DGet.k (k := .inl t) e, h⟩
theorem k_dictD (e : H p = some (.dK kvs)) (h : ∀ q H', H q = none → Same H H' → H' q = some (.dK kvs) → Q (.ref q) H') : rDictD [.ref p] H Q := ⟨p, kvs, rfl, .inl e, fun q nq => h q _ nq (same_new nq) upd_same⟩
theorem k_lenD (e : H p = some (.dK kvs)) (h : Q (.int kvs.length) H) : rLenD [.ref p] H Q := ⟨p, kvs, rfl, e, h⟩
end
theorem u65 {k : Nat} {A : Around} (r : Room k A) : A.units + 65 < cLine := by have := r.un; omega
end Cm

namespace HT
open PySem PySem.Spec PyProof.Rows
section
variable {prog : Program} {w : World} {A : Around} {E : Value → Shared → Prop} {s : Shared}
/-! ### t[::-1] -/
theorem sliceApplied_rev {sl : Addr} {vs : Value} {n : Nat} {Q : Int × Int × Nat → Shared → Prop} (hs : s.heap.IsSliceOf sl .none .none vs) (ps : IsPart vs (some (-1)))
    (h : Q ((n : Int) - 1, -1, n) s) : wpAny (model prog w) A (Builtin.Slice.sliceApplied (.ref sl) (pure (n : Int))) Q E s := by
  obtain ⟨os, hos, hcs, hds⟩ := id hs
  unfold Builtin.Slice.sliceApplied Builtin.Slice.sliceFields
  refine wpAny_bind (wpAny_bind (wpAny_field hos hds (x := .none) rfl (wpAny_bind (wpAny_field hos hds (x := .none) rfl (wpAny_bind (wpAny_field hos hds (x := vs) rfl (wpAny_pure ?_)))))))
  refine wpAny_bind (slicePart_ ps ?_)
  show wpAny _ _ (if ((-1 : Int) == 0) = true then _ else _) _ _ s
  rw [if_neg (by decide)]
  refine wpAny_bind (slicePart_none (wpAny_bind (slicePart_none (wpAny_bind (wpAny_pure ?_)))))
  show wpAny _ _ (match Builtin.Slice.sliceAdjust none none (-1) (n : Int) with | (lo, hi) => pure (lo, (-1 : Int), Builtin.Slice.slicePlaces lo hi (-1))) _ _ s
  rw [show Builtin.Slice.sliceAdjust none none (-1) (n : Int) = ((n : Int) - 1, -1) by unfold Builtin.Slice.sliceAdjust; simp]
  show wpAny _ _ (pure ((n : Int) - 1, (-1 : Int), Builtin.Slice.slicePlaces ((n : Int) - 1) (-1) (-1))) _ _ s
  have e : Builtin.Slice.slicePlaces ((n : Int) - 1) (-1) (-1) = n := by
    unfold Builtin.Slice.slicePlaces
    rw [if_neg (by decide)]
    split
    · rw [show (- -1 : Int) = 1 by decide, Int.ediv_one]; omega
    · omega
  rw [e]
  exact wpAny_pure h
theorem fm_congr {α β : Type} {f g : α → Option β} : ∀ l : List α, (∀ x ∈ l, f x = g x) → l.filterMap f = l.filterMap g
  | [], _ => rfl
  | a :: r, h => by
    rw [List.filterMap_cons, List.filterMap_cons, h a List.mem_cons_self, fm_congr r fun x hx => h x (List.mem_cons_of_mem _ hx)]
theorem pick_rev (xs : Array Value) : ((List.range xs.size).filterMap fun (m : Nat) => xs[((xs.size : Int) - 1 + (m : Int) * -1).toNat]?).toArray = xs.toList.reverse.toArray := by
  congr 1
  refine List.ext_getElem? fun i => ?_
  have e : (List.range xs.size).filterMap (fun (m : Nat) => xs[((xs.size : Int) - 1 + (m : Int) * -1).toNat]?) = (List.range xs.size).map fun m => xs.toList.getD (xs.size - 1 - m) .none := by
    rw [← List.filterMap_eq_map]
    refine fm_congr _ fun m hm => ?_
    have hm' := List.mem_range.mp hm
    have : ((xs.size : Int) - 1 + (m : Int) * -1).toNat = xs.size - 1 - m := by omega
    rw [this]
    have hl : xs.size - 1 - m < xs.size := by omega
    simp [List.getD_eq_getElem?_getD, hl]
  rw [e, List.getElem?_map]
  by_cases c : i < xs.size
  · rw [List.getElem?_range c, List.getElem?_reverse (by simpa using c)]
    have hl : xs.size - 1 - i < xs.size := by omega
    simp [List.getD_eq_getElem?_getD, hl]
  · rw [List.getElem?_eq_none (by simpa using c), List.getElem?_eq_none (by simpa using c)]
    rfl
theorem getItem_tuple_rev {t sl : Addr} {items : Array Value} {vs : Value} {Q : Value → Shared → Prop} (ht : IsTup s.heap t items) (hs : s.heap.IsSliceOf sl .none .none vs) (ps : IsPart vs (some (-1)))
    (h : Q (.ref s.heap.objs.size) { s with heap := s.heap.push { cls := .type "tuple", data := .seq items.toList.reverse.toArray } })
    (hsz : items.size ≤ sizeLine) : wpAny (model prog w) A (getItem (.ref t) (.ref sl)) Q E s := by
  have htake : sizeOk (.seq items.toList.reverse.toArray) := by
    show items.toList.reverse.toArray.size ≤ sizeLine
    rw [List.size_toArray, List.length_reverse, Array.length_toList]
    exact hsz
  obtain ⟨os, hos, hcs, hds⟩ := id hs
  have hTs : s.TypeIs (.ref sl) "slice" := ⟨os, hos, hcs⟩
  unfold getItem
  try with_reducible refine wpAny_holding ?_
  first | refine wpAny_bind (wpAny_pure ?_) | skip
  refine wpAny_bind (wpAny_sequenceKey ht.typeIs (by decide) ?_)
  refine wpAny_bind (wpAny_callSpecial?_slot (name := Str.ofString "__getitem__") ht.typeIs PyProof.Rows.slot_tuple_getitem
    (wpAny_call_entry PyProof.Rows.slot_tuple_getitem ht.typeIs entry_tuple_getitem ?_ (args_tuple_getitem _ _)))
  show wpAny _ _ (Builtin.Tuple.tupleItemsOf (.ref t) >>= _) _ _ s
  refine wpAny_bind (tupleItemsOf_ ht ?_)
  refine wpAny_bind (wpAny_typeOf hTs ?_)
  rw [if_pos (by decide)]
  refine wpAny_bind (sliceApplied_rev hs ps ?_)
  have hno : ¬ ((((items.size : Int) - 1) == 0 && (-1 : Int) == 1 && items.size == items.size) = true) := by
    intro q
    rw [Bool.and_eq_true, Bool.and_eq_true] at q
    exact absurd q.1.2 (by decide)
  show wpAny _ _ (if (((items.size : Int) - 1) == 0 && (-1 : Int) == 1 && items.size == items.size) = true then _ else _) _ _ s
  rw [if_neg hno, pick_rev]
  first
    | exact wpAny_bind (m := Builtin.Tuple.tupleExact _) (wpAny_newObj_type (wpAny_pure ⟨_, rfl, wpAny_pure h⟩) htake)
    | exact wpAny_bind (m := Builtin.Tuple.tupleExact _) (wpAny_newObj_type (wpAny_bind (wpAny_pure (wpAny_pure ⟨_, rfl, wpAny_pure h⟩))) htake)
/-! ### list(reversed(list)) -/
end
end HT
namespace HT
open PySem PySem.Spec PyProof.Rows L2 RT
section
variable {prog : Program} {w : World} {A : Around} {E : Value → Shared → Prop} {s : Shared}
theorem extend_rev {R : Result → Shared → Prop} {it l S : Addr} {items : Array Value} {c0 : Nat} (hh : A.handled = none) (res : Value) (hit : s.heap.IsRevIter it l ((items.size : Int) - 1)) (hl : s.heap.IsList l items) (hne : l ≠ it) (hn : items.size ≤ sizeLine) (hSi : S ≠ it) (hSl : S ≠ l)
    (hS : s.heap.get? S = some { cls := .type "list", data := .seq #[] c0 })
    (hR : ∀ (h' : Heap) (tk : Nat) (acc : Array Value) (c' : Nat), (∀ b o, b ≠ it → b ≠ S → s.heap.get? b = some o → h'.get? b = some o) → h'.get? S = some { cls := .type "list", dict := none, data := .seq acc c', slots := #[] } → ItemsOf (fun i v => items[items.size - 1 - i]? = some v) acc items.size → R (.ok (.ret res)) { s with heap := h', toks := tk }) :
    wpAny (model prog w) A.in1 (Builtin.List.listExtendWith (.ref S) (.ref it) res)
      (fun fin s' => match fin with | .done f => R (.ok f) s' | .again c' => c'.quiet = true ∧ codeAny (model prog w) A c' R s') (fun e s' => R (.error e) s') s := by
  have W := (Walks.listRev (prog := prog) (w := w) (A := A.in1) hh it l hne items).toS
  have hSf : S ∉ [it, l] := by simp only [List.mem_cons, List.not_mem_nil, or_false, not_or]; exact ⟨hSi, hSl⟩
  have hT : s.TypeIs (.ref it) "list_reverseiterator" := hit.typeIs
  have h1 : Builtin.List.listSameRef (.ref S) (.ref it) = false := by simp [Builtin.List.listSameRef, hSi]
  unfold Builtin.List.listExtendWith
  refine wpAny_bind (wpAny_typeOf hT ?_)
  rw [if_neg (by rw [h1]; decide)]
  refine wpAny_bind (wpAny_pyIter_revIter hit ?_)
  refine wpAny_bind (wpAny_holding ?_)
  unfold Builtin.List.listLengthHint
  refine wpAny_bind (wpAny_specialOf hT nolen_lri ?_)
  show wpAny _ A.in1 (specialOf (Value.ref it) (Str.ofString "__length_hint__") >>= _) _ _ _
  refine wpAny_bind (wpAny_specialOf hT hint_lri ?_)
  generalize hid : ("list_reverseiterator.__length_hint__" : String) = id0
  wp_delta
  rw [show splitId id0 = some ("list_reverseiterator", "__length_hint__") from by subst hid; decide +kernel]
  subst hid
  refine wpAny_bind (wpAny_isInstance (b := true) hT (by rw [isSubtype_type]; kernel_rfl) ?_)
  refine wpAny_pure ?_
  rw [if_neg (by decide)]
  have e0 : ((items.size : Nat) : Int) - 1 - ((0 : Nat) : Int) = (items.size : Int) - 1 := by omega
  refine wpAny_pure ⟨plainId_quiet F.plain_extend_loop _, codeAny_extend_loopS W hn _ hSf res items.size 0 _ _ _ rfl (Nat.zero_le _) ⟨Nat.zero_le _, by rw [e0]; exact hit, hl⟩ hS (ItemsOf.nil _) fun s' acc' c' hm hS' hacc => ?_⟩
  rw [Moved.eq_with hm]
  refine hR s'.heap s'.toks acc' c' (fun b o hb hb2 e => hm.heap b o (fun hmem => ?_) e) hS' hacc
  rcases List.mem_cons.mp hmem with e' | hmem
  · exact hb2 e'
  · exact hb (List.mem_singleton.mp hmem)
theorem list_init_rev {R : Result → Shared → Prop} {it l S : Addr} {items : Array Value} (hh : A.handled = none) (hit : s.heap.IsRevIter it l ((items.size : Int) - 1)) (hl : s.heap.IsList l items) (hne : l ≠ it) (hn : items.size ≤ sizeLine) (hSi : S ≠ it) (hSl : S ≠ l)
    (hS : s.heap.get? S = some { cls := .type "list", data := .seq #[] })
    (hR : ∀ (h' : Heap) (tk : Nat) (acc : Array Value) (c' : Nat), (∀ b o, b ≠ it → b ≠ S → s.heap.get? b = some o → h'.get? b = some o) → h'.get? S = some { cls := .type "list", dict := none, data := .seq acc c', slots := #[] } → ItemsOf (fun i v => items[items.size - 1 - i]? = some v) acc items.size → R (.ok (.ret .none)) { s with heap := h', toks := tk }) :
    wpAny (model prog w) A.in1 (Builtin.«list.__init__» ⟨[.ref S, .ref it], []⟩)
      (fun fin s' => match fin with | .done f => R (.ok f) s' | .again c' => c'.quiet = true ∧ codeAny (model prog w) A c' R s') (fun e s' => R (.error e) s') s := by
  show wpAny _ A.in1 (do let old ← Builtin.List.listItems (.ref S); Builtin.List.listUpdate (.ref S) (fun _ => #[]); letGo old.toList.reverse; Builtin.List.listExtendWith (.ref S) (.ref it) .none) _ _ s
  refine wpAny_bind ?_
  unfold Builtin.List.listItems
  refine wpAny_bind (wpAny_seqItems hS rfl (wpAny_pure ?_))
  show wpAny _ A.in1 (updateSeq S (fun _ => #[]) >>= fun _ => letGo (#[] : Array Value).toList.reverse >>= fun _ => Builtin.List.listExtendWith (.ref S) (.ref it) .none) _ _ s
  refine wpAny_bind (wpAny_updateSeq hS rfl ?_)
  have hS2 := Heap.get?_update_self (Obj.mapSeq (fun _ => (#[] : Array Value))) hS rfl
  have oth : ∀ b o, b ≠ S → s.heap.get? b = some o → (s.heap.update S (Obj.mapSeq (fun _ => (#[] : Array Value)))).get? b = some o :=
    fun b o hb e => (Heap.get?_update_other _ _ (Ne.symm hb)).trans e
  refine wpAny_bind (wpAny_letGo ?_)
  have hl2 : (s.heap.update S (Obj.mapSeq (fun _ => (#[] : Array Value)))).IsList l items := by
    obtain ⟨o, e, r⟩ := hl
    exact ⟨o, oth _ _ (Ne.symm hSl) e, r⟩
  refine extend_rev hh .none (hit.at fun o e => oth _ _ (Ne.symm hSi) e) hl2 hne hn hSi hSl hS2 fun h' tk acc' c' hk hS' hacc => ?_
  exact hR h' tk acc' c' (fun b o hb hb2 e => hk b o hb hb2 (oth b o hb2 e)) hS' hacc
theorem call_list_rev {it l : Addr} {items : Array Value} {Q : Value → Shared → Prop} (hh : A.handled = none) (hit : s.heap.IsRevIter it l ((items.size : Int) - 1)) (hl : s.heap.IsList l items) (hne : l ≠ it) (hn : items.size ≤ sizeLine)
    (hQ : ∀ (h' : Heap) (tk : Nat) (acc : Array Value) (c' : Nat), (∀ b o, b ≠ it → s.heap.get? b = some o → h'.get? b = some o) → h'.get? s.heap.objs.size = some { cls := .type "list", dict := none, data := .seq acc c', slots := #[] } → ItemsOf (fun i v => items[items.size - 1 - i]? = some v) acc items.size →
      Q (.ref s.heap.objs.size) { s with heap := h', toks := tk }) :
    wpAny (model prog w) A (call (.type "list") [.ref it]) Q E s := by
  obtain ⟨oi, hoi, _⟩ := id hit
  obtain ⟨ol, hol, _⟩ := id hl
  have hSi : s.heap.objs.size ≠ it := Nat.ne_of_gt (Heap.lt_size hoi)
  have hSl : s.heap.objs.size ≠ l := Nat.ne_of_gt (Heap.lt_size hol)
  refine callType_codes (Q₁ := fun obj s₁ => obj = .ref s.heap.objs.size ∧ s₁ = { s with heap := s.heap.push { cls := .type "list", data := .seq #[] } }) F.called_list (F.typeCall_list_1 _) F.entry_list_init
    (code_list_new _ ⟨rfl, rfl⟩) fun obj s₁ h₁ => ?_
  obtain ⟨rfl, rfl⟩ := h₁
  have hS : (s.heap.push { cls := .type "list", data := .seq #[] }).get? s.heap.objs.size = some { cls := .type "list", data := .seq #[] } := Heap.get?_push_size _ rfl
  refine ⟨⟨_, hS, rfl⟩, F.args_list_init_2 _ _, list_init_rev (A := A.in1) hh (hit.at fun o e => Heap.get?_push_of_some _ e) (hl.push _) hne hn hSi hSl hS fun h' tk acc' c' hk hS' hacc => ?_⟩
  exact ⟨rfl, hQ h' tk acc' c' (fun b o hb e => hk b o hb (Nat.ne_of_lt (Heap.lt_size e)) (Heap.get?_push_of_some _ e)) hS' hacc⟩
end
end HT
namespace Cm
open PySem PySem.Spec PyProof.Rows L2 RT
section
variable {X : Cx}
def rRevT (K : PySem.W.Frag) (x : V) (H : Hp) (Q : VK) : Prop := ∃ a xs, x = .ref a ∧ SqT K H a xs ∧ ∀ p, H p = none → Q (.ref p) (upd H p (.tup xs.reverse))
def tRevT (K : PySem.W.Frag) (te : TE) : TE := fun σ H Q => te σ H fun x H1 => rRevT K x H1 Q
theorem pe_revT {e : Expr} {te : TE} {k : Nat} {p1 p2 p3 pos : Pos} (he : PE X e te) : PE X (.Subscript e (.Slice none none (some (.UnaryOp .USub (.Constant (.int 1) k p1) p2)) p3) pos) (tRevT X.K te) := by
  refine ⟨fun pins s σ H Q I h => ?_⟩
  refine Subscript_ (thn (he.run pins s σ H _ I h) fun v s1 ⟨x, H1, I1, r1, q1⟩ => ?_)
  obtain ⟨a, xs, ex, hx, q⟩ := q1
  subst ex
  cases r1
  have hst : PO X (some (.UnaryOp .USub (.Constant (.int 1) k p1) p2)) (tPart (tUn (rU fun i => .int (-i)) (tC (.int 1)))) := po_some (pe_un un_neg pe_int)
  refine wpAny_Slice (thn (po_none.run pins s1 σ H1 (fun o H2 => o = none ∧ H2 = H1) I1 ⟨rfl, rfl⟩) fun vl s2 ⟨l, H2, I2, pl, el, e2⟩ => ?_)
  subst el e2
  refine thn (po_none.run pins s2 σ H2 (fun o H3 => o = none ∧ H3 = H2) I2 ⟨rfl, rfl⟩) fun vu s3 ⟨u, H3, I3, pu, eu, e3⟩ => ?_
  subst eu e3
  refine thn (hst.run pins s3 σ H3 (fun o H4 => o = some (-1) ∧ H4 = H3) I3 ⟨1, rfl, -1, rfl, rfl, rfl⟩) fun vs s4 ⟨o, H4, I4, ps, eo, e4⟩ => ?_
  subst eo e4
  have I5 : Inv X pins σ H4 { s4 with heap := s4.heap.push { cls := .type "slice", data := .fields #[vl, vu, vs] } } := I4.kept (t' := s4.toks) fun b ob q => Heap.get?_push_of_some _ q
  obtain ⟨its, r, ht, hz⟩ := I5.tuple hx
  have hlen := r.length
  cases pl
  cases pu
  show wpAny (model X.prog X.w) X.A (subscriptTail e (.Slice none none (some (.UnaryOp .USub (.Constant (.int 1) k p1) p2)) p3) (.ref a) (.ref s4.heap.objs.size)) (EP X pins σ Q) X.xe { s4 with heap := s4.heap.push { cls := .type "slice", data := .fields #[.none, .none, vs] } }
  refine tail_any (ops := [.ref a, .ref s4.heap.objs.size]) ht.typeIs (PyProof.Rows.slot_tuple_getitem.lookup) ?_ (by with_unfolding_all rfl)
  refine HT.getItem_tuple_rev ht (Heap.IsSliceOf.new _ .none .none vs) ps ?_ (by rw [List.size_toArray]; omega)
  refine ⟨.ref _, _, I5.laid (t' := s4.toks) (o := .tup xs.reverse) (fun b ob q => Heap.get?_push_of_some _ q) (Nat.le_refl _) ?_, rfl, q _ (I5.hok.fresh (Nat.le_refl _))⟩
  exact ⟨by rw [List.length_reverse]; exact hz, _, r.reverse, IsTup.new _ _⟩
end
instance {K : PySem.W.Frag} {σ : L2.St} {H : Hp} {Q : VK} {te : TE} : Stp (tRevT K te σ H Q) (te σ H fun x H1 => rRevT K x H1 Q) := ⟨id⟩
theorem k_revT {K : PySem.W.Frag} {H : Hp} {Q : VK} {a : Addr} {xs : List V} (hs : SqT K H a xs) (h : ∀ p H', H p = none → Same H H' → H' p = some (.tup xs.reverse) → Q (.ref p) H') : rRevT K (.ref a) H Q := ⟨a, xs, rfl, hs, fun p np => h p _ np (same_new np) upd_same⟩
/-! ### is, is not of truths -/
def xIsB : R2 := rIsB
def xNotB : R2 := rNotB
instance {a b : Bool} {H : Hp} {Q : VK} : Stp (xIsB (.bl a) (.bl b) H Q) (Q (.bl (decide (a = b))) H) := ⟨fun h => ⟨a, b, rfl, rfl, h⟩⟩
instance {a b : Bool} {H : Hp} {Q : VK} : Stp (xNotB (.bl a) (.bl b) H Q) (Q (.bl (!decide (a = b))) H) := ⟨fun h => ⟨a, b, rfl, rfl, h⟩⟩
/-! ### tuple(xs) of a list -/
def rTupOf (K : PySem.W.Frag) : List V → Hp → VK → Prop := fun xs H Q => ∃ p ys, xs = [.ref p] ∧ ((SqL K H p ys ∧ ∀ l, H l = none → Q (.ref l) (upd H l (.tup ys))) ∨ (SqT K H p ys ∧ Q (.ref p) H))
theorem q_tupOf {X : Cx} : CallR X (.type "tuple") (rTupOf X.K) := call_tuple_of
theorem k_tupOf {K : PySem.W.Frag} {H : Hp} {Q : VK} {p : Addr} {ys : List V} (hs : SqL K H p ys) (h : ∀ l H', H l = none → Same H H' → H' l = some (.tup ys) → Q (.ref l) H') : rTupOf K [.ref p] H Q := ⟨p, ys, rfl, .inl ⟨hs, fun l nl => h l _ nl (same_new nl) upd_same⟩⟩
/-! ### [d[k] for k in d] -/
theorem lc_vals {σ : L2.St} {H : Hp} {Q : VK} {p : Addr} {kvs : List (Key × V)} {i l : Nat} (hd : H p = some (.dK kvs)) (hv0 : (wipe σ [l])[i]? = some (some (.ref p)) ∧ σ[i]? = some (some (.ref p))) (hv : ∀ x : V, ((wipe σ [l]).set l (some x))[i]? = some (some (.ref p))) (hl : ∀ x : V, ((wipe σ [l]).set l (some x))[l]? = some (some x)) (hwp : ∀ x : V, wipe ((wipe σ [l]).set l (some x)) [l] = wipe σ [l])
    (hn : kvs.length ≤ 50000) (nd : ∀ kv ∈ kvs, valV kvs kv.1 = some kv.2) (h : ∀ D H', H D = none → Same H H' → H' D = some (.lst (kvs.map (·.2))) → Q (.ref D) H') :
    tLockE (tLc (iKeys (tVar i)) (gName l) tYes (tDGet (tVar i) (tVar l)) [l]) σ H Q := by
  refine ⟨p, .dK kvs, hd, trivial, fun od => ?_⟩
  refine ⟨_, hv0.2, p, od, rfl, .inl ⟨kvs, upd_same, fun D nD => ?_⟩⟩
  have Dp : D ≠ p := fun z => by rw [z, upd_same] at nD; cases nD
  have nD' : H D = none := by rw [upd_ne Dp] at nD; exact nD
  refine lc_it walk_keys (fun j H' => H' = upd (upd H p (.frz od (.dK kvs))) D (.lst ((kvs.take j).map (·.2)))) (by simp) (fun j H' _ e => by rw [e, upd_ne (fun z => Dp z.symm), upd_same]) ?_ ?_
  · rintro j x H1 H2 hj rfl ⟨rfl, k, v, hk, rfl⟩
    refine ⟨hwp _, ?_⟩
    refine k_yes (iteT ?_)
    refine ⟨_, hv _, _, hl _, p, v, rfl, .inl ⟨kvs, k, .inr ⟨od, by rw [upd_ne (fun z => Dp z.symm), upd_same]⟩, rfl, (nd _ (List.mem_of_getElem? hk)).symm⟩, _, upd_same, szl (by rw [List.length_map, List.length_take]; omega), ?_⟩
    rw [upd_upd, List.take_add_one, hk, List.map_append]
    rfl
  · rintro H1 rfl
    refine ⟨by rw [upd_ne (fun z => Dp z.symm), upd_same], ?_⟩
    refine h D _ nD' (fun b o hb => ?_) ?_
    · by_cases c : b = p
      · rw [c, upd_same, ← hd, ← c, hb]
      · have bD : b ≠ D := fun z => by rw [z, nD'] at hb; cases hb
        rw [upd_ne c, upd_ne bD, upd_ne c]; exact hb
    · rw [upd_ne Dp, upd_same, List.take_length]
/-! ### d.get(k) -/
def gD1N (a : Addr) (y : V) (H : Hp) (Q : VK) : Prop := ∃ o, DGet H a y o ∧ Q (o.getD .non) H
instance {σ : L2.St} {H : Hp} {Q : VK} {td ty : TE} : Stp (tDGet1 td ty σ H Q) (td σ H fun x H1 => aD x H1 fun a => ty σ H1 fun y H2 => gD1N a y H2 Q) := ⟨id⟩
theorem k_gD1N {H : Hp} {Q : VK} {p : Addr} {kvs : List (Key × V)} {t : Int} (e : H p = some (.dK kvs)) (h : Q ((valV kvs (.inl t)).getD .non) H) : gD1N p (.int t) H Q := ⟨_, DGet.k (k := .inl t) e, h⟩
/-! ### list(reversed(xs)) of a list -/
section
variable {X : Cx}
def rLRv (K : PySem.W.Frag) (x : V) (H : Hp) (Q : VK) : Prop := ∃ a xs, x = .ref a ∧ SqL K H a xs ∧ ∀ p, H p = none → Q (.ref p) (upd H p (.lst xs.reverse))
def tLRv (K : PySem.W.Frag) (te : TE) : TE := fun σ H Q => te σ H fun x H1 => rLRv K x H1 Q
theorem pe_lRv {e : Expr} {te : TE} {p p2 pos pos2 : Pos} (hc : X.calm = true) (hg : Gl X "list") (hm : X.mg "list" = none) (hg2 : Gl X "reversed") (hm2 : X.mg "reversed" = none) (he : PE X e te)
    (hs : starEach [e] X.env = (false, eval e X.env) :: starEach [] X.env := by rfl)
    (hs2 : starEach [.Call (.Name "reversed" p2) [e] [] pos2] X.env = (false, eval (.Call (.Name "reversed" p2) [e] [] pos2) X.env) :: starEach [] X.env := by rfl) :
    PE X (.Call (.Name "list" p) [.Call (.Name "reversed" p2) [e] [] pos2] [] pos) (tLRv X.K te) := by
  refine ⟨fun pins s σ H Q I h => ?_⟩
  refine Call_ (ld_blt I hg hm boot_list (PyProof.Rows.callWith_type1 (args_cons (Call_ (ld_blt I hg2 hm2 PyProof.Rows.boot_reversed (PyProof.Rows.callWith_type1 (args_cons (thn (he.run pins s σ H _ I h) fun u s1 ⟨v, H1, I1, r1, q1⟩ => args_nil ?_) hs) hs rfl))) hs2) hs2 rfl))
  obtain ⟨a, xs, ev, hq, q⟩ := q1
  subst ev
  obtain rfl : u = Value.ref a := r1
  obtain ⟨its, rv, p', hz⟩ := I1.list hq
  refine call_reversed_list p'.isList (args_nil ?_)
  have k0 : ∀ b o, s1.heap.get? b = some o → (s1.heap.push (revObj a ((its.toArray.size : Int) - 1))).get? b = some o := fun b o e => Heap.get?_push_of_some _ e
  have I2 : Inv X pins σ H1 { s1 with heap := s1.heap.push (revObj a ((its.toArray.size : Int) - 1)) } := I1.kept (t' := s1.toks) k0
  obtain ⟨f0, f1, f2, f3, f4, f5⟩ := I1.fpOk (H' := H1) (b := s1.heap.objs.size) (Nat.le_refl _) (I1.hok.fresh (Nat.le_refl _))
  have hl := p'.isList
  obtain ⟨ol, hol, _⟩ := id hl
  have hne : a ≠ s1.heap.objs.size := Nat.ne_of_lt (Heap.lt_size hol)
  have hn : its.toArray.size ≤ sizeLine := by rw [List.size_toArray, ← rv.length]; exact hz
  refine HT.call_list_rev (s := { s1 with heap := s1.heap.push (revObj a ((its.toArray.size : Int) - 1)) }) (I1.ok.hd hc) ⟨_, Heap.get?_push_size _ rfl, rfl, rfl⟩ (hl.push _) hne hn fun h' tk acc c' hk hS' hi => ?_
  refine ⟨.ref _, upd H1 _ (.lst xs.reverse), I2.turnedNew (t' := tk) (ch := [s1.heap.objs.size]) (fun b o hb e => hk b o (fun z => hb (by rw [z]; exact List.mem_singleton.mpr rfl)) e) (fun b hb => by rw [List.mem_singleton.mp hb]; exact ⟨f0, f1, f2, f3, f4, f5⟩) (Nat.le_refl _) (show ObjOk X.prog X.w _ _ _ (.lst xs.reverse) from ⟨by rw [List.length_reverse]; exact hz, acc.toList, c', vals_rev rv hi, by rw [Array.toArray_toList]; exact hS'⟩), rfl, q _ (I2.hok.fresh (Nat.le_refl _))⟩
instance {K : PySem.W.Frag} {σ : L2.St} {H : Hp} {Q : VK} {te : TE} : Stp (tLRv K te σ H Q) (te σ H fun x H1 => rLRv K x H1 Q) := ⟨id⟩
theorem k_lRv {K : PySem.W.Frag} {H : Hp} {Q : VK} {a : Addr} {xs : List V} (hs : SqL K H a xs) (h : ∀ p H', H p = none → Same H H' → H' p = some (.lst xs.reverse) → Q (.ref p) H') : rLRv K (.ref a) H Q := ⟨a, xs, rfl, hs, fun p np => h p _ np (same_new np) upd_same⟩
end
/-! ### xs + ys of any two lists -/
section
variable {X : Cx}
def rCatS (K : PySem.W.Frag) : R2 := fun x y H Q => ∃ l b xs zs, x = .ref l ∧ y = .ref b ∧ SqL K H l xs ∧ SqL K H b zs ∧ xs.length + zs.length ≤ sizeLine ∧ ∀ p, H p = none → Q (.ref p) (upd H p (.lst (xs ++ zs)))
theorem op_catS : OpR X (binaryOp .Add) (rCatS X.K) := by
  intro pins s σ H x y v u Q I rx ry h
  obtain ⟨l, b, xs, zs, rfl, rfl, hH, hB, hz, q⟩ := h
  cases rx
  cases ry
  obtain ⟨its, r, p1, _⟩ := I.list hH
  obtain ⟨its2, r2, p2, _⟩ := I.list hB
  have l1 := r.length
  have l2 := r2.length
  obtain ⟨⟨cls, dd, data, sl⟩, ho, hc, n, hd⟩ := p1.isList
  obtain ⟨⟨cls2, dd2, data2, sl2⟩, ho2, hc2, n2, hd2⟩ := p2.isList
  simp only at hc hd hc2 hd2
  subst hc hd hc2 hd2
  have e : its.toArray ++ its2.toArray = (its ++ its2).toArray := by simp
  refine concat_meets ⟨_, ho, rfl⟩ ⟨_, ho2, rfl⟩ noFill_list_add seq_list_add PySem.F.slot_list_add PySem.F.entry_list_add (PySem.F.args_list_add_2 _ _) (list_addW l b its.toArray its2.toArray n n2 dd dd2 sl sl2 (by simp only [List.size_toArray]; omega)) ⟨ho, ho2, ?_⟩
  rw [e]
  exact ⟨.ref _, _, I.lnew (t' := s.toks) (r.append r2) (by rw [List.length_append]; exact hz), rfl, q _ I.fresh⟩
theorem k_catS {K : PySem.W.Frag} {H : Hp} {Q : VK} {l b : Addr} {xs zs : List V} (hl : SqL K H l xs) (hb : SqL K H b zs) (hz : xs.length + zs.length ≤ 100000) (h : ∀ p H', H p = none → Same H H' → H' p = some (.lst (xs ++ zs)) → Q (.ref p) H') : rCatS K (.ref l) (.ref b) H Q := ⟨l, b, xs, zs, rfl, rfl, hl, hb, sz hz, fun p np => h p _ np (same_new np) upd_same⟩
end
/-! ### xs.count(k) of a list of tuples and whole numbers -/
def isK (k : Int) : V → Bool
  | .int i => decide (i = k)
  | _ => false
def isKU (k : Int) : Value → Bool
  | .int i _ => decide (i = k)
  | _ => false
theorem isK_rel {k : Int} {v : V} {u : Value} (r : RelV v u) (h : (∃ p, v = .ref p) ∨ ∃ i, v = .int i) : isKU k u = isK k v := by
  rcases h with ⟨p, rfl⟩ | ⟨i, rfl⟩
  · cases r; rfl
  · obtain ⟨t, rfl⟩ := r; rfl
theorem isK_cnt {k : Int} : ∀ {vs : List V} {us : List Value}, Vals vs us → (∀ v ∈ vs, (∃ p, v = .ref p) ∨ ∃ i, v = .int i) → us.countP (isKU k) = vs.countP (isK k)
  | _, _, .nil, _ => rfl
  | v :: vs, u :: us, .cons r rs, h => by
    rw [List.countP_cons, List.countP_cons, isK_rel r (h v List.mem_cons_self), isK_cnt rs fun x hx => h x (List.mem_cons_of_mem _ hx)]
def rCntD (K : PySem.W.Frag) : V → List V → Hp → VK → Prop := fun x xs H Q => ∃ (a : Addr) (ys : List V) (ds : List PyData) (k : Int), x = V.ref a ∧ xs = [.int k] ∧ SqL K H a ys ∧ DpAll K H ys ds ∧ PyData.canLayAll0 ds = true ∧ (∀ d ∈ ds, (∃ es, d = .tuple es) ∨ ∃ i, d = .int i) ∧ Q (.int (ys.countP (isK k) : Nat)) H
theorem lay_mem : ∀ {ds : List PyData}, PyData.canLayAll0 ds = true → ∀ d ∈ ds, d.canLay0 = true
  | [], _, d, h => by cases h
  | a :: r, h, d, hd => by
    have h' : (a.canLay0 && PyData.canLayAll0 r) = true := h
    rw [Bool.and_eq_true] at h'
    rcases List.mem_cons.mp hd with rfl | hd
    · exact h'.1
    · exact lay_mem h'.2 d hd
theorem vals_data {K : PySem.W.Frag} {H : Hp} : ∀ {vs : List V} {us : List Value} {ds : List PyData}, Vals vs us → DpAll K H vs ds → ∀ u ∈ us, ∃ v d, RelV v u ∧ Dp K H v d ∧ d ∈ ds
  | _, _, _, .nil, _, u, hu => by cases hu
  | _, _, _, .cons r rs, .cons h hs, u, hu => by
    rcases List.mem_cons.mp hu with rfl | hu
    · exact ⟨_, _, r, h, List.mem_cons_self⟩
    · obtain ⟨v, d, h1, h2, h3⟩ := vals_data rs hs u hu
      exact ⟨v, d, h1, h2, List.mem_cons_of_mem _ h3⟩
theorem data_kind {K : PySem.W.Frag} {H : Hp} {v : V} {d : PyData} (h : Dp K H v d) (k : (∃ es, d = .tuple es) ∨ ∃ i, d = .int i) : (∃ p, v = .ref p) ∨ ∃ i, v = .int i := by
  rcases k with ⟨es, rfl⟩ | ⟨i, rfl⟩
  · obtain ⟨a, _, e, _⟩ := dp_tup h; exact .inl ⟨a, e⟩
  · exact .inr ⟨i, dp_int h⟩
theorem mt_lcountD {X : Cx} (hu : X.A.units + 64 < cLine) : MtR X "list.count" (rCntD X.K) := by
  intro pins s σ H x xs v us Q I rx rxs h
  obtain ⟨a, ys, ds, k, rfl, rfl, hs, dys, lay, kd, q⟩ := h
  cases rx
  cases rxs with
  | cons ry rt =>
    rename_i uy ut
    cases rt
    obtain ⟨t, rfl⟩ := ry
    obtain ⟨its, rv, ⟨⟨cls, dd, data, sl⟩, n, ho, hc, hdn, hd⟩, hlen⟩ := I.list hs
    simp only at hc hd
    subst hc hd
    refine call_meets PySem.F.slot_list_count ⟨_, ho, rfl⟩ PySem.F.entry_list_count (PySem.F.args_list_count_2 _ _)
      (SeqAt.list_countAt a its.toArray n dd sl (.int k t) (isKU k)) ⟨ho, fun u' hu' => ?_, ?_⟩
    · obtain ⟨w, d, r1, r2, r3⟩ := vals_data rv dys u' (by simpa using hu')
      obtain ⟨as, rd⟩ := Dp.reads I d w u' r2 r1
      have eq := SeqAt.eqAt_reads d (.int k) X.A.in1 s u' (.int k t) as _ rd (Reads.int k t) (lay_mem lay d r3) rfl (by
        have : min d.depth (PyData.int k).depth ≤ 0 := Nat.min_le_right _ _
        have e : X.A.in1.units = X.A.units + 1 := rfl
        rw [e]; omega)
      have e : PyData.eqv d (.int k) = isKU k u' := by
        rw [isK_rel r1 (data_kind r2 (kd d r3))]
        rcases kd d r3 with ⟨es, rfl⟩ | ⟨i, rfl⟩
        · obtain ⟨p, _, rfl, _⟩ := dp_tup r2; rfl
        · cases dp_int r2
          show (i == k) = decide (i = k)
          by_cases c : i = k
          · rw [c, decide_eq_true rfl]; simp
          · rw [decide_eq_false c]; simpa using c
      rw [e] at eq
      exact eq
    · have ec : its.toArray.toList.countP (isKU k) = ys.countP (isK k) := isK_cnt rv fun v hv => by
        obtain ⟨i, hi, e⟩ := List.mem_iff_getElem.mp hv
        obtain ⟨d, hd, dd⟩ := dpa_get dys (show ys[i]? = some v by rw [List.getElem?_eq_getElem hi, e])
        exact data_kind dd (kd d (List.mem_of_getElem? hd))
      refine ⟨.int (ys.countP (isK k) : Nat), H, I.tok _, ⟨s.toks, ?_⟩, q⟩
      show Value.int ((its.toArray.toList.countP (isKU k) : Nat) : Int) s.toks = Value.int ((ys.countP (isK k) : Nat) : Int) s.toks
      rw [ec]
end Cm
namespace HT
open PySem PySem.Spec PyProof.Rows L2
/-! ### a set of whole numbers made of a list, its table in order -/
/-- the set at S holds just the first i numbers -/
def Grown (w : World) (val : Nat → Int) (S : Addr) (i : Nat) (h : Heap) : Prop := SetR w h S (fun k => (firstMet val i).any (· == k)) (firstMet val i).length
section
variable {prog : Program} {w : World} {A : Around} {E : Value → Shared → Prop} {s : Shared}
theorem Grown.next {val : Nat → Int} {S : Addr} {i : Nat} {tk : Tok} {Q : Bool → Shared → Prop} (g : Grown w val S i s.heap) (room : i + 1 < scanBound) (h : ∀ b h', Heap.SameBut S s.heap h' → Grown w val S (i + 1) h' → Q b { s with heap := h' }) :
    wpAny (model prog w) A (setAddHashed S (.int (val i) tk) ((intKind prog w).hash (val i))) Q E s :=
  setR_add_hashed g (Nat.lt_of_le_of_lt (Nat.add_le_add_right (firstMet_length_le val i) 1) room) fun h' sb r => h _ h' sb (by
    unfold Grown
    rw [firstMet_succ, step_length]
    exact r.congr fun k => step_any _ _ k)
theorem grow_all {I : Addr} {fp wr : List Addr} {G : Array GenState → Array GenState → Prop} {n : Nat} {P : Nat → Value → Prop} {St : Nat → Shared → Prop} {R : Result → Shared → Prop} {S : Addr} {val : Nat → Int} {s0 : Shared}
    (W : WalksS prog w A.in1 I fp wr G n P St) (out : S ∉ fp) (hin : ∀ i v, P i v → ∃ t, v = .int (val i) t) (room : n + 1 < scanBound)
    (fin : ∀ z, Moved (S :: wr) G s0 z → Grown w val S n z.heap → R (.ok (.ret .none)) z) :
    ∀ (left i : Nat) (z : Shared), i + left = n → St i z → Moved (S :: wr) G s0 z → Grown w val S i z.heap → codeAny (model prog w) A (.builtin "set.update.loop" ⟨[.ref S, .ref I], []⟩) R z := by
  have away : S ∉ wr := fun y => out (W.sub _ y)
  have wider : ∀ b ∈ wr, b ∈ S :: wr := fun _ y => List.mem_cons_of_mem _ y
  intro left
  induction left with
  | zero =>
    rintro i z e st mv g
    obtain rfl : i = n := e
    refine codeAny_builtin F.entry_set_update_loop ?_
    rw [Around.under_plainId F.plain_set_update_loop _]
    exact wpAny_bind (W.done z _ _ st fun z' m => wpAny_pure (fin z' (Moved.trans W.gtrans mv (m.mono wider)) (g.at fun o y => m.heap S _ away y)))
  | succ left ih =>
    rintro i z e st mv g
    refine codeAny_builtin F.entry_set_update_loop ?_
    rw [Around.under_plainId F.plain_set_update_loop _]
    refine wpAny_bind (W.item i z _ _ (by omega) st fun v z' pv st' m => ?_)
    obtain ⟨t, rfl⟩ := hin i v pv
    have g' : Grown w val S i z'.heap := g.at fun o y => m.heap S _ away y
    refine wpAny_bind (wpAny_holding (m := setAdd S (.int (val i) t)) ?_)
    unfold setAdd
    refine wpAny_holding (wpAny_bind ((intKind prog w).pyHash (k := val i) (intKind_is _ _ _ _) ?_))
    refine Grown.next (s := { z' with toks := z'.toks + 1 }) g' (by omega) fun _ h' sb g2 => ?_
    have keep : ∀ b o, b ≠ S → z'.heap.get? b = some o → h'.get? b = some o := fun b o hb y => by rw [sb.2 b hb]; exact y
    refine wpAny_pure ⟨plainId_quiet F.plain_set_update_loop _, ih (i + 1) _ (by omega) (W.frame _ z' _ _ st' (Nat.le_succ _) fun b hb o y => keep b o (fun c => out (c ▸ hb)) y) ?_ g2⟩
    exact Moved.trans W.gtrans mv ((m.mono wider).then_heap (Nat.le_succ _) fun b o hb y => keep b o (fun c => hb (c ▸ List.mem_cons_self)) y)
/-- the new set, before anything is in it -/
def bareSet (w : World) : Obj := { cls := .type "set", dict := none, data := .set #[] 0 (.fresh 0 0 (!w.params.followText "set-order")) }
theorem new_bare (x : Value) {Q : Value → Shared → Prop} (h : Q (.ref s.heap.objs.size) { s with heap := s.heap.push (bareSet w) }) :
    codeAny (model prog w) A (.call (.builtin "set.__new__") ⟨[.type "set", x], []⟩) (wants Q E) s := by
  refine codeAny_of_tree ?_
  show wpAny _ A.in1 (checkBuiltinCall "set.__new__" ⟨[.type "set", x], []⟩ >>= fun _ => again (.builtin "set.__new__" ⟨[.type "set", x], []⟩)) _ _ s
  refine wpAny_bind (wpAny_of_eq (F.newCall_set_1 x) (wpAny_pure ⟨plainId_quiet F.plain_set_new _, codeAny_builtin F.entry_set_new ?_⟩))
  rw [Around.under_plainId F.plain_set_new _]
  have sub := sub_set_self
  unfold Builtin.«set.__new__» Builtin.Frozenset.newClass
  obtain ⟨hp, g, d, tk, os⟩ := s
  dsimp only
  wp_walk
  exact wpAny_askSetting (wpAny_pure (by dsimp only; simp only [newObj]; exact wpAny_bind (wpAny_alloc (wpAny_pure (wpAny_pure h)))))
/-- set.__init__ of a bare set and a list of whole numbers -/
theorem init_bare {l : Addr} {items : Array Value} {ns : List Int} {R : Result → Shared → Prop} {S : Addr} (hh : A.handled = none) (hS : s.heap.get? S = some (bareSet w)) (hl : s.heap.IsList l items) (hi : IntsAre items.toList ns) (room : items.size + 1 < scanBound)
    (fin : ∀ (h' : Heap) (tk : Nat), Grown w (fun i => ns.getD i 0) S items.size h' → (∀ b o, b ≠ S → s.heap.get? b = some o → h'.get? b = some o) → R (.ok (.ret .none)) { s with heap := h', toks := tk }) :
    wpAny (model prog w) A.in1 (Builtin.«set.__init__» ⟨[.ref S, .ref l], []⟩)
      (fun f s' => match f with | .done f => R (.ok f) s' | .again c => c.quiet = true ∧ codeAny (model prog w) A c R s') (fun e s' => R (.error e) s') s := by
  obtain ⟨⟨cl, dc, dt, so⟩, hol, hcl, nl, hdl⟩ := id hl
  simp only at hcl hdl
  subst hcl hdl
  have noSet := F.sub_list_set
  have noFrozen := F.sub_list_frozenset
  have noDict : (Value.type "list" == Value.type "dict") = false := by decide
  unfold bareSet at hS
  unfold Builtin.«set.__init__» noKeywords Builtin.Frozenset.updateFrom
  generalize eI : pyIter = walkIt
  wp_walk
  subst eI
  refine wpAny_pyIter_list hl ?_
  refine wpAny_bind (wpAny_runValue ?_)
  have lt1 : l < s.heap.objs.size := Heap.lt_size hol
  have ltS : S < s.heap.objs.size := Heap.lt_size hS
  have neS : l ≠ S := fun z => by
    rw [z, hS] at hol
    simp at hol
  have old : ∀ b o, s.heap.get? b = some o → (s.heap.push { cls := .type "list_iterator", data := .fields #[.ref l, .int 0 0] }).get? b = some o := fun b o y => Heap.get?_push_of_some _ y
  refine grow_all (s0 := { s with heap := s.heap.push { cls := .type "list_iterator", data := .fields #[.ref l, .int 0 0] } }) (val := fun i => ns.getD i 0) ((Walks.list (prog := prog) (w := w) (A := A.in1.in1) hh s.heap.objs.size l (Nat.ne_of_lt lt1) items).toS) ?_ (fun i v y => IntsAre.int_at hi i v (by rw [Array.getElem?_toList]; exact y)) room (fun z m g => ?_) items.size 0 _ (by omega) ⟨⟨_, Heap.get?_push_size _ rfl, rfl, rfl⟩, hl.push _⟩ (Moved.refl fun _ => rfl) ?_
  · simp only [List.mem_cons, List.not_mem_nil, or_false, not_or]
    exact ⟨Nat.ne_of_lt ltS, fun z => neS z.symm⟩
  · have ez := Moved.eq_with m
    rw [ez]
    refine wpAny_pure ?_
    show wpAny _ _ (ret Value.none) _ _ _
    refine wpAny_pure (fin z.heap z.toks g fun b o hb y => m.heap b o (fun hm => ?_) (old b o y))
    rcases List.mem_cons.mp hm with hm | hm
    · exact hb hm
    · have e : b = s.heap.objs.size := by simpa using hm
      exact Nat.lt_irrefl _ (e ▸ Heap.lt_size y)
  · have g0 : SetR w (s.heap.push { cls := .type "list_iterator", data := .fields #[.ref l, .int 0 0] }) S (fun _ => false) 0 :=
      ⟨_, #[], 0, _, old _ _ hS, ⟨rfl, rfl, rfl⟩, rfl, (fun e he => by simp at he), (by simp), (fun k => by simp), (by decide), (by rfl), rfl, List.Pairwise.nil, by
        show _ ∨ (!w.params.followText "set-order") = true
        cases w.params.followText "set-order"
        · exact .inr rfl
        · exact .inl rfl⟩
    exact g0
/-- set(xs) of whole numbers, with what sorted needs -/
theorem set_of_ints {l : Addr} {items : Array Value} {ns : List Int} {Q : Value → Shared → Prop} (hh : A.handled = none) (hl : s.heap.IsList l items) (hi : IntsAre items.toList ns) (room : items.size + 1 < scanBound)
    (fin : ∀ (h' : Heap) (tk : Nat), Grown w (fun i => ns.getD i 0) s.heap.objs.size items.size h' → (∀ b o, s.heap.get? b = some o → h'.get? b = some o) → Q (.ref s.heap.objs.size) { s with heap := h', toks := tk }) :
    wpAny (model prog w) A (call (.type "set") [.ref l]) Q E s := by
  have T := F.called_set
  obtain ⟨c, tl, mro⟩ := T.mro
  have made := T.made
  have sub := T.sub
  have known := T.init.lookup
  have nt := T.notType
  have cc := T.canCreate
  have tc := F.typeCall_set_1 (.ref l)
  refine wpAny_call (codeAny_of_tree ?_)
  show wpAny _ _ (callAny (.type "set") _) _ _ _
  refine wpAny_pure ⟨Code.quiet_builtin _ (by decide +kernel), codeAny_builtin F.entry_type_call ?_⟩
  rw [Around.under_plain (weight_type_call_type "set" [.ref l] []) rfl]
  repeat (any_goals (first | assumption | wp_step))
  refine codeAny_mono (new_bare (w := w) (.ref l) (E := E) (Q := fun v z => v = .ref s.heap.objs.size ∧ z = { s with heap := s.heap.push (bareSet w) }) ⟨rfl, rfl⟩) fun r z hr => ?_
  cases r with
  | error e => exact hr
  | ok f =>
    cases f with
    | ret v =>
      obtain ⟨rfl, rfl⟩ := hr
      have hS : (s.heap.push (bareSet w)).get? s.heap.objs.size = some (bareSet w) := Heap.get?_push_size _ rfl
      have bind := T.init.bind (.ref s.heap.objs.size)
      have sub2 : isSubtype (bareSet w).cls (Value.type "set") = pure true := sub
      have known2 := known
      have ty : Shared.TypeIs { s with heap := s.heap.push (bareSet w) } (.ref s.heap.objs.size) "set" := ⟨_, hS, rfl⟩
      repeat (any_goals (first | assumption | wp_step))
      refine codeAny_mono (codeAny_call_builtin (R := wants (fun r z => r = .none ∧ ∃ h' tk, z = { s with heap := h', toks := tk } ∧ Grown w (fun i => ns.getD i 0) s.heap.objs.size items.size h' ∧ ∀ b o, s.heap.get? b = some o → h'.get? b = some o) E) T.init.plain F.entry_set_init (check_set_init_1 ty ?_)) fun r2 z2 h2 => ?_
      · refine init_bare (s := { s with heap := s.heap.push (bareSet w) }) (R := _) (S := s.heap.objs.size) (by simp [hh]) hS (hl.push _) hi room fun h' tk g k => ⟨rfl, h', tk, rfl, g, fun b o y => k b o (Nat.ne_of_lt (Heap.lt_size y)) (Heap.get?_push_of_some _ y)⟩
      · cases r2 with
        | error e => exact h2
        | ok f2 =>
          cases f2 with
          | ret v2 =>
            obtain ⟨rfl, h', tk, rfl, g, k⟩ := h2
            repeat (any_goals (first | assumption | wp_step))
            exact fin h' tk g k
          | _ => exact h2.elim
    | _ => exact hr.elim
end
end HT
namespace Cm
open PySem PySem.Spec PyProof.Rows L2
/-! ### sorted(set(xs)) of whole numbers -/
def rSrtU (K : PySem.W.Frag) (x : V) (H1 : Hp) (Q : VK) : Prop := ∃ (l : Addr) (ns : List Int), x = .ref l ∧ SqL K H1 l (ns.map V.int) ∧ (ns.length ≤ 1000 ∧ unl ns ≤ 60) ∧ ∀ (ms : List Int) (p : Addr), ms.Pairwise (· < ·) → (∀ k, k ∈ ms ↔ k ∈ ns) → H1 p = none → Q (.ref p) (upd H1 p (.lst (ms.map V.int)))
def tSrtU (K : PySem.W.Frag) (ta : TE) : TE := fun σ H Q => ta σ H fun x H1 => rSrtU K x H1 Q
theorem met_mem {ns : List Int} (k : Int) : (PyProof.Rows.firstMet (fun i => ns.getD i 0) ns.length).any (· == k) = true ↔ k ∈ ns := by
  rw [firstMet_any]
  have e : (List.range ns.length).map (fun i => ns.getD i 0) = ns := by
    refine List.ext_getElem? fun i => ?_
    rw [List.getElem?_map]
    by_cases c : i < ns.length
    · rw [List.getElem?_range c, List.getElem?_eq_getElem c]
      simp [List.getD_eq_getElem?_getD, c]
    · rw [List.getElem?_eq_none (by simpa using c), List.getElem?_eq_none (by simpa using c)]; rfl
  rw [e, List.any_eq_true]
  constructor
  · rintro ⟨x, hx, h⟩; rw [← eq_of_beq h]; exact hx
  · intro h; exact ⟨k, h, beq_self_eq_true k⟩
theorem pe_srtU {X : Cx} {a : Expr} {ta : TE} {p p2 q pos : Pos} (cm : X.calm = true) (gl : Gl X "sorted") (ml : X.mg "sorted" = none) (gs : Gl X "set") (ms : X.mg "set" = none) (pa : PE X a ta)
    (se : starEach [a] X.env = (false, eval a X.env) :: starEach [] X.env := by rfl) : PE X (.Call (.Name "sorted" p) [.Call (.Name "set" p2) [a] [] q] [] pos) (tSrtU X.K ta) := by
  constructor
  intro pins s σ H Q I h
  refine Call_ (ld_blt I gl ml boot_sorted (PyProof.Rows.callWith_builtin1 (PyProof.Rows.args_cons ?_ rfl) rfl rfl))
  refine Call_ (ld_blt I gs ms boot_set (PyProof.Rows.callWith_type1 (PyProof.Rows.args_cons (thn (pa.run pins s σ H _ I h) fun v s1 ⟨x, H1, J, rx, qx⟩ => PyProof.Rows.args_nil ?_) se) se rfl))
  obtain ⟨l, ns, rfl, hq, ⟨hl, few⟩, qx⟩ := qx
  cases rx
  obtain ⟨its, rv, pl, hz⟩ := J.list hq
  have size : its.toArray.size = ns.length := by rw [List.size_toArray, ← rv.length, List.length_map]
  unfold unl at few
  refine HT.set_of_ints (J.ok.hd cm) pl.isList (by simpa using RZ.intsAre_vals rv) (by rw [size]; unfold scanBound; omega) fun h' tk g k => PyProof.Rows.args_nil ?_
  rw [size] at g
  have J2 : Inv X pins σ H1 { s1 with heap := h', toks := tk } := J.kept k
  have g2 : SetR X.w ({ s1 with heap := h', toks := tk } : Shared).heap s1.heap.objs.size _ _ := g
  generalize s1.heap.objs.size = sa at g2 ⊢
  generalize ({ s1 with heap := h', toks := tk } : Shared) = s2 at J2 g2 ⊢
  refine sorted_set g2 (J2.ok.hd cm) (by omega) fun s3 p out c ms keep gens os hp hg hin hs hm len => ?_
  have fresh : H1 p = none := J2.hok.fresh hp
  have es : s3 = { s2 with heap := s3.heap, gens := s3.gens, drawn := s3.drawn, toks := s3.toks } := by
    cases s3
    cases s2
    cases os
    rfl
  rw [es]
  have line : (ms.map V.int).length ≤ sizeLine := by
    rw [List.length_map, len]
    exact sz (by omega)
  have J3 : Inv X pins σ (upd H1 p (.lst (ms.map V.int))) { s2 with heap := s3.heap, gens := s3.gens, drawn := s3.drawn, toks := s3.toks } :=
    J2.call (ch := []) (Un.laid keep hp fresh) (J2.hok.laid keep hp ⟨line, out.toList, c, vals_of_ints hin, hg⟩) (by rw [gens]; exact J2.bare) (fun _ z => nomatch z)
  exact ⟨.ref p, _, J3, rfl, qx ms p hs (fun k => (hm k).trans (met_mem k)) fresh⟩
instance {K : PySem.W.Frag} {σ : L2.St} {H : Hp} {Q : VK} {te : TE} : Stp (tSrtU K te σ H Q) (te σ H fun x H1 => rSrtU K x H1 Q) := ⟨id⟩
theorem k_srtU {K : PySem.W.Frag} {H : Hp} {Q : VK} {l : Addr} {ns : List Int} (hs : SqL K H l (ns.map V.int)) (hl : ns.length ≤ 1000) (hu : unl ns ≤ 60) (h : ∀ (ms : List Int) (p : Addr) H', ms.Pairwise (· < ·) → (∀ k, k ∈ ms ↔ k ∈ ns) → H p = none → Same H H' → H' p = some (.lst (ms.map V.int)) → Q (.ref p) H') : rSrtU K (.ref l) H Q := ⟨l, ns, rfl, hs, ⟨hl, hu⟩, fun ms p a b c => h ms p _ a b c (same_new c) upd_same⟩
end Cm
namespace Cm
open PySem PySem.Spec PyProof.Rows L2
/-! ### x (not) in range(..) -/
theorem rg_has (o : Addr) (p q st x : Int) (k1 k2 k3 k4 : Tok) :
    Meets (Builtin.«range.__contains__» ⟨[.ref o, .int x k4], []⟩) (fun _ W z => z.heap.get? o = some { cls := .type "range", data := .fields #[.int p k1, .int q k2, .int st k3], dict := none, slots := #[] } ∧ W (.ok (.ret (.bool (Builtin.Range.rangePlace? p q st x).isSome))) z) :=
  .of_wp fun prog w A W z hz => by
    obtain ⟨hp, gg, dd, kk, ss⟩ := z
    obtain ⟨there, hz⟩ := hz
    wp_walk
    exact ⟨_, rfl, hz⟩
def RgV (vs : List V) (a b c : Int) : Prop := (vs = [.int b] ∧ a = 0 ∧ c = 1) ∨ (vs = [.int a, .int b, .int c] ∧ 0 < c ∧ c < 1073741824)
def inRgB (neg : Bool) (a b c i : Int) : Bool := if neg then !(Builtin.Range.rangePlace? a b c i).isSome else (Builtin.Range.rangePlace? a b c i).isSome
def tInRg (neg : Bool) (ta : TE) (tA : TA) : TE := fun σ H Q => ta σ H fun x H1 => tA σ H1 fun vs H2 => ∃ i a b c, x = .int i ∧ RgV vs a b c ∧ Q (.bl (inRgB neg a b c i)) H2
def rgOp : Bool → CmpOp
  | true => .NotIn
  | false => .In
theorem cmp_rg {X : Cx} {neg : Bool} {pins : List (Addr × Obj)} {s : Shared} {σ : L2.St} {H : Hp} {Q : VK} {o : Addr} {p q st x : Int} {k1 k2 k3 k4 : Tok} (J : Inv X pins σ H s) (ho : s.heap.get? o = some { cls := .type "range", data := .fields #[.int p k1, .int q k2, .int st k3] })
    (h : Q (.bl (inRgB neg p q st x)) H) : wpAny (model X.prog X.w) X.A (compareOp (rgOp neg) (.int x k4) (.ref o)) (EP X pins σ Q) X.xe s := by
  have go : ∀ {R : Bool → Shared → Prop}, R (Builtin.Range.rangePlace? p q st x).isSome s → wpAny (model X.prog X.w) X.A (contains (Value.ref o) (Value.int x k4)) R X.xe s := fun h =>
    wpAny_contains_slot (T := "range") ⟨_, ho, rfl⟩ F.slot_range_contains (call_meets F.slot_range_contains ⟨_, ho, rfl⟩ F.entry_range_contains (F.args_range_contains_2 _ _) (rg_has o p q st x k1 k2 k3 k4) ⟨ho, wpAny_truthy_bool h⟩)
  cases neg with
  | false =>
    show wpAny _ _ (do return Value.bool (← contains (Value.ref o) (Value.int x k4))) _ _ s
    exact wpAny_bind (go (wpAny_pure ⟨.bl _, H, J, rfl, h⟩))
  | true =>
    show wpAny _ _ (do return Value.bool (!(← contains (Value.ref o) (Value.int x k4)))) _ _ s
    exact wpAny_bind (go (wpAny_pure ⟨.bl _, H, J, rfl, h⟩))
theorem pc_inRg {X : Cx} {neg : Bool} {a b : Expr} {rest : List Expr} {ta : TE} {tA : TA} {p pos : Pos} (hg : Gl X "range") (hm : X.mg "range" = none) (pa : PE X a ta) (pA : PA X (b :: rest) tA)
    (he : starEach (b :: rest) X.env = (false, eval b X.env) :: starEach rest X.env) (hpl : (backTo pos (starEach rest X.env)).any (·.1) = false) : PC X (rgOp neg) a (.Call (.Name "range" p) (b :: rest) [] pos) (tInRg neg ta tA) := by
  refine ⟨fun pins s σ H Q I h => ?_⟩
  refine thn (pa.run pins s σ H _ I h) fun v s1 ⟨x, H1, I1, rx, q1⟩ => ?_
  refine Call_ (ld_blt I1 hg hm boot_range (PyProof.Rows.callWith_type1 (thn (pA.run pos pins s1 σ H1 _ I1 q1) fun us s2 ⟨vs, H2, I2, rs, q2⟩ => ?_) he hpl))
  obtain ⟨i, lo, hi, st, rfl, hv, q⟩ := q2
  obtain ⟨k, rfl⟩ := rx
  rcases hv with ⟨rfl, rfl, rfl⟩ | ⟨rfl, c0, c1⟩
  · cases rs with | cons r1 rr =>
    cases rr
    obtain ⟨t1, rfl⟩ := r1
    refine call_range_1 ?_
    exact cmp_rg (I2.kept fun b o e => Heap.get?_push_of_some _ e) (Heap.get?_push_size _ rfl) q
  · cases rs with | cons r1 rr =>
    cases rr with | cons r2 rr =>
    cases rr with | cons r3 rr =>
    cases rr
    obtain ⟨t1, rfl⟩ := r1
    obtain ⟨t2, rfl⟩ := r2
    obtain ⟨t3, rfl⟩ := r3
    refine call_range_3 (by omega) ?_ (.inl (PyProof.noPylong_small (by omega)))
    exact cmp_rg (I2.kept fun b o e => Heap.get?_push_of_some _ e) (Heap.get?_push_size _ rfl) q
def iRgIn (neg : Bool) (x : V) (vs : List V) (H : Hp) (Q : VK) : Prop := ∃ i a b c, x = .int i ∧ RgV vs a b c ∧ Q (.bl (inRgB neg a b c i)) H
instance {σ : L2.St} {H : Hp} {Q : VK} {neg : Bool} {ta : TE} {tA : TA} : Stp (tInRg neg ta tA σ H Q) (ta σ H fun x H1 => tA σ H1 fun vs H2 => iRgIn neg x vs H2 Q) := ⟨id⟩
theorem place_has (a b c i : Int) (hc : 0 < c) : (Builtin.Range.rangePlace? a b c i).isSome = decide (a ≤ i ∧ i < b ∧ (i - a) % c = 0) := by
  unfold Builtin.Range.rangePlace?
  rw [if_pos hc]
  by_cases h1 : a ≤ i <;> by_cases h2 : i < b <;> by_cases h3 : (i - a) % c = 0 <;> simp [h1, h2, h3]
theorem k_inRg1 {neg : Bool} {H : Hp} {Q : VK} {i n : Int} (h : Q (.bl (if neg then !decide (0 ≤ i ∧ i < n) else decide (0 ≤ i ∧ i < n))) H) : iRgIn neg (.int i) [.int n] H Q := ⟨i, 0, n, 1, rfl, .inl ⟨rfl, rfl, rfl⟩, by
  have e : decide (0 ≤ i ∧ i < n ∧ (i - 0) % 1 = 0) = decide (0 ≤ i ∧ i < n) := by rw [decide_eq_decide]; constructor <;> omega
  unfold inRgB
  rw [place_has 0 n 1 i (by decide), e]
  exact h⟩
theorem k_inRg3 {neg : Bool} {H : Hp} {Q : VK} {i a b c : Int} (hc : 0 < c) (hc2 : c < 1073741824) (h : Q (.bl (if neg then !decide (a ≤ i ∧ i < b ∧ (i - a) % c = 0) else decide (a ≤ i ∧ i < b ∧ (i - a) % c = 0))) H) : iRgIn neg (.int i) [.int a, .int b, .int c] H Q := ⟨i, a, b, c, rfl, .inr ⟨rfl, hc, hc2⟩, by
  unfold inRgB
  rw [place_has a b c i hc]
  exact h⟩
end Cm

namespace Pf
open PySem PySem.Spec PyProof.Rows L2 Cm
local macro_rules | `(tactic| wtm_at "smh") => `(tactic| with_reducible first
  | assumption
  | (refine Same.trans ?_ (by assumption); wtm_at "smx")
  | (refine Same.trans ?_ (hid_mono (by assumption)); wtm_at "smx"))
local macro_rules | `(tactic| wtm_at "smx") => `(tactic| with_reducible first
  | exact Same.refl _
  | assumption
  | exact hid_same _ _
  | (refine Same.trans ?_ (by assumption); wtm_at "smx")
  | (refine Same.trans ?_ (hid_mono (by assumption)); wtm_at "smx")
  | (apply hid_back; wtm_at "smh"))
local macro_rules | `(tactic| wtm_at "sm") => `(tactic| wtm_at "smx")
local macro_rules | `(tactic| wtm_at "at") => `(tactic| with_reducible first
  | assumption
  | exact upd_same
  | (refine at_same (by assumption) ?_; wtm_at "smx"))
local macro_rules | `(tactic| wtm_at "le") => `(tactic| with_reducible first
  | assumption
  | (refine Le.same (by assumption) ?_; wtm_at "smx"))
local macro_rules | `(tactic| wtm_at "dp") => `(tactic| with_reducible first
  | assumption
  | exact .int _
  | exact .str _
  | exact .bl _
  | (refine dp_same ?_ (by assumption); wtm_at "smx")
  | (refine dpa_same ?_ (by assumption); wtm_at "smx")
  | (refine dpI_at (by assumption) ?_; wtm_at "smx")
  | (refine dpP_at (by assumption) ?_; wtm_at "smx"))
local macro_rules | `(tactic| wtm_at "sq") => `(tactic| with_reducible first
  | assumption
  | exact sl (by assumption)
  | exact stp (by assumption)
  | (refine sl_at (by assumption) ?_; wtm_at "smx")
  | (refine st_at (by assumption) ?_; wtm_at "smx")
  | (refine Same.seq ?_ (by assumption); wtm_at "smx")
  | (refine same_seqT ?_ (by assumption); wtm_at "smx")
  | ((show SqL _ (upd _ _ _) _ _); exact sl upd_same)
  | ((show SqT _ (upd _ _ _) _ _); exact stp upd_same))
local macro_rules | `(tactic| wtm_at "cI") => `(tactic| first
  | (refine Or.inl ⟨?_, ?_⟩ <;> omega)
  | (refine Or.inr ⟨?_, ?_⟩ <;> omega)
  | (refine ⟨?_, ?_⟩ <;> omega)
  | decide)
local macro_rules | `(tactic| wtm_at "pf") => `(tactic| first | omega | decide)
local macro_rules | `(tactic| wtm_at "s2") => `(tactic| with_reducible first
  | ((show ite _ _ _); first
    | refine k_itDT (by with_unfolding_all wtm_at "pf") ?_
    | refine k_itDF (by with_unfolding_all wtm_at "pf") ?_
    | refine k_itNT (by with_unfolding_all wtm_at "pf") ?_
    | refine k_itNF (by with_unfolding_all wtm_at "pf") ?_)
  | ((show rLenX _ _ _ _); first
    | refine k_len0 (by assumption) ?_
    | refine k_lenI (by wtm_at "sq") ?_
    | refine k_len (by wtm_at "sq") ?_)
  | ((show gTup _ _ _ _ _ _ _); refine k_gtup (by wtm_at "sq") (by with_unfolding_all rfl) ?_)
  | ((show rIxT _ (V.ref _) (V.int _) _ _); refine k_ixT (by wtm_at "sq") (by with_unfolding_all rfl) ?_)
  | ((show wipe _ _ = wipe _ _ ∧ _); refine k_wipe (by with_unfolding_all rfl) ?_)
  | ((show rIn _ _ _ _ _ _); first
    | refine k_inI (by wtm_at "sq") ?_
    | refine k_notInI (by wtm_at "sq") ?_)
  | ((show rIsi _ _ _ _); refine k_isiL (by wtm_at "sq") ?_)
  | ((show xMod _ _ _ _); refine k_mod (by with_unfolding_all first | decide | omega) ?_)
  | ((show xMul _ _ _ _); refine k_mul (by with_unfolding_all wtm_at "cI") ?_)
  | ((show xDiv _ _ _ _); refine k_div (by with_unfolding_all wtm_at "cI") ?_)
  | ((show xPow _ _ _ _); refine k_pow (by with_unfolding_all exact ⟨by decide, by decide, by decide⟩) ?_)
  | ((show rMinT _ _ _ _); refine k_minT (by wtm_at "sq") ?_)
  | ((show rMaxT _ _ _ _); refine k_maxT (by wtm_at "sq") ?_)
  | ((show ∃ j' : Int, [V.int _] = [.int j'] ∧ _); refine k_rj1 (by with_unfolding_all omega) (by with_unfolding_all omega) ?_)
  | ((show ∃ i' j' : Int, [V.int _, V.int _] = [.int i', .int j'] ∧ _); refine k_rj2 (by with_unfolding_all omega) ?_))
local macro_rules | `(tactic| wtm_at "s1") => `(tactic| first
  | refine go ?_
  | wtm_at "s2")
local macro_rules | `(tactic| wtm_at "s") => `(tactic| repeat wtm_at "s1")
def topS (i : Nat) : Stmt := PySem.Challenge.pw_tiehues_k58_whole_wide_things_judged.main.body.getD i (.Pass ⟨0, 0, 0, 0⟩)
abbrev s_is_tree : Stmt := topS 12
theorem sc_is_tree : FnScope ["parents", "k"] ["parents"] (defScope s_is_tree) := ⟨rfl, rfl, rfl, by decide +kernel, rfl, by decide +kernel, by decide +kernel⟩
abbrev s_look_net : Stmt := topS 13
theorem sc_look_net : FnScope ["net", "kind", "size", "right"] ["net"] (defScope s_look_net) := ⟨rfl, rfl, rfl, by decide +kernel, rfl, by decide +kernel, by decide +kernel⟩
abbrev s_must_be_kind : Stmt := topS 14
theorem sc_must_be_kind : FnScope ["net", "kind"] ["net", "kind"] (defScope s_must_be_kind) := ⟨rfl, rfl, rfl, by decide +kernel, rfl, by decide +kernel, by decide +kernel⟩
abbrev s_places_of : Stmt := topS 15
theorem sc_places_of : FnScope ["net"] ["net"] (defScope s_places_of) := ⟨rfl, rfl, rfl, by decide +kernel, rfl, by decide +kernel, by decide +kernel⟩
abbrev s_ties_many : Stmt := topS 16
theorem sc_ties_many : FnScope ["net"] ["net"] (defScope s_ties_many) := ⟨rfl, rfl, rfl, by decide +kernel, rfl, by decide +kernel, by decide +kernel⟩
abbrev s_is_way : Stmt := topS 17
theorem sc_is_way : FnScope ["net", "way", "a", "b"] ["net", "way"] (defScope s_is_way) := ⟨rfl, rfl, rfl, by decide +kernel, rfl, by decide +kernel, by decide +kernel⟩
abbrev s_ties_on : Stmt := topS 18
theorem sc_ties_on : FnScope ["net", "way", "a", "b", "found"] ["net", "way"] (defScope s_ties_on) := ⟨rfl, rfl, rfl, by decide +kernel, rfl, by decide +kernel, by decide +kernel⟩
abbrev s_must_be_ways : Stmt := topS 19
theorem sc_must_be_ways : FnScope ["net", "ways", "k"] ["net", "ways"] (defScope s_must_be_ways) := ⟨rfl, rfl, rfl, by decide +kernel, rfl, by decide +kernel, by decide +kernel⟩
abbrev s_look_ways : Stmt := topS 20
theorem sc_look_ways : FnScope ["net", "ways"] ["net", "ways"] (defScope s_look_ways) := ⟨rfl, rfl, rfl, by decide +kernel, rfl, by decide +kernel, by decide +kernel⟩
abbrev s_look_ring : Stmt := topS 21
theorem sc_look_ring : FnScope ["net"] ["net"] (defScope s_look_ring) := ⟨rfl, rfl, rfl, by decide +kernel, rfl, by decide +kernel, by decide +kernel⟩
abbrev s_counted : Stmt := topS 22
theorem sc_counted : FnScope ["net", "ways", "found", "way", "tie"] ["net", "ways"] (defScope s_counted) := ⟨rfl, rfl, rfl, by decide +kernel, rfl, by decide +kernel, by decide +kernel⟩
abbrev s_loads : Stmt := topS 23
theorem sc_loads : FnScope ["net", "ways"] ["net", "ways"] (defScope s_loads) := ⟨rfl, rfl, rfl, by decide +kernel, rfl, by decide +kernel, by decide +kernel⟩
abbrev s_first_clash : Stmt := topS 24
theorem sc_first_clash : FnScope ["lain", "hues", "i", "j", "tie"] ["lain", "hues"] (defScope s_first_clash) := ⟨rfl, rfl, rfl, by decide +kernel, rfl, by decide +kernel, by decide +kernel⟩
abbrev s_clash : Stmt := topS 25
theorem sc_clash : FnScope ["net", "ways", "hues", "way"] ["net", "ways", "hues"] (defScope s_clash) := ⟨rfl, rfl, rfl, by decide +kernel, rfl, by decide +kernel, by decide +kernel⟩
abbrev s_is_whole : Stmt := topS 27
theorem sc_is_whole : FnScope ["thing"] ["thing"] (defScope s_is_whole) := ⟨rfl, rfl, rfl, by decide +kernel, rfl, by decide +kernel, by decide +kernel⟩
abbrev s_have_common : Stmt := topS 28
theorem sc_have_common : FnScope ["one", "other", "thing"] ["one", "other"] (defScope s_have_common) := ⟨rfl, rfl, rfl, by decide +kernel, rfl, by decide +kernel, by decide +kernel⟩
abbrev s_meetings : Stmt := topS 29
theorem sc_meetings : FnScope ["net", "ways", "ties", "found", "one", "way", "k"] ["net", "ways"] (defScope s_meetings) := ⟨rfl, rfl, rfl, by decide +kernel, rfl, by decide +kernel, by decide +kernel⟩
abbrev s_look_few : Stmt := topS 30
theorem sc_look_few : FnScope ["net", "ways", "most"] ["net", "ways", "most"] (defScope s_look_few) := ⟨rfl, rfl, rfl, by decide +kernel, rfl, by decide +kernel, by decide +kernel⟩
abbrev s_look_number : Stmt := topS 31
theorem sc_look_number : FnScope ["number"] ["number"] (defScope s_look_number) := ⟨rfl, rfl, rfl, by decide +kernel, rfl, by decide +kernel, by decide +kernel⟩
abbrev s_options : Stmt := topS 32
theorem sc_options : FnScope ["h", "given", "k"] ["h", "given"] (defScope s_options) := ⟨rfl, rfl, rfl, by decide +kernel, rfl, by decide +kernel, by decide +kernel⟩
abbrev s_is_stuck : Stmt := topS 33
theorem sc_is_stuck : FnScope ["meets", "given", "k", "hue", "other"] ["meets", "given", "k", "hue"] (defScope s_is_stuck) := ⟨rfl, rfl, rfl, by decide +kernel, rfl, by decide +kernel, by decide +kernel⟩
abbrev s_with_hue : Stmt := topS 34
theorem sc_with_hue : FnScope ["given", "k", "hue", "more"] ["given", "k", "hue"] (defScope s_with_hue) := ⟨rfl, rfl, rfl, by decide +kernel, rfl, by decide +kernel, by decide +kernel⟩
abbrev s_is_right : Stmt := topS 35
theorem sc_is_right : FnScope ["meets", "h", "given", "case", "k", "children", "hue", "child"] ["meets", "h", "given", "case"] (defScope s_is_right) := ⟨rfl, rfl, rfl, by decide +kernel, rfl, by decide +kernel, by decide +kernel⟩
abbrev s_must_be_crossing : Stmt := topS 39
theorem sc_must_be_crossing : FnScope ["crossing", "many", "pairs", "s", "t"] ["crossing"] (defScope s_must_be_crossing) := ⟨rfl, rfl, rfl, by decide +kernel, rfl, by decide +kernel, by decide +kernel⟩
abbrev s_is_lot : Stmt := topS 40
theorem sc_is_lot : FnScope ["crossing", "lot", "k"] ["crossing", "lot"] (defScope s_is_lot) := ⟨rfl, rfl, rfl, by decide +kernel, rfl, by decide +kernel, by decide +kernel⟩
abbrev s_bound_of : Stmt := topS 41
theorem sc_bound_of : FnScope ["crossing", "lot", "within", "half", "s", "t"] ["crossing", "lot"] (defScope s_bound_of) := ⟨rfl, rfl, rfl, by decide +kernel, rfl, by decide +kernel, by decide +kernel⟩
abbrev s_lot_bound : Stmt := topS 42
theorem sc_lot_bound : FnScope ["crossing", "lot"] ["crossing", "lot"] (defScope s_lot_bound) := ⟨rfl, rfl, rfl, by decide +kernel, rfl, by decide +kernel, by decide +kernel⟩
abbrev s_ties_at : Stmt := topS 44
theorem sc_ties_at : FnScope ["net", "place", "parents", "k"] ["net", "place"] (defScope s_ties_at) := ⟨rfl, rfl, rfl, by decide +kernel, rfl, by decide +kernel, by decide +kernel⟩
abbrev s_crossing_of : Stmt := topS 45
theorem sc_crossing_of : FnScope ["net", "ways", "place", "here", "pairs", "numbers", "k", "some", "tie"] ["net", "ways", "place"] (defScope s_crossing_of) := ⟨rfl, rfl, rfl, by decide +kernel, rfl, by decide +kernel, by decide +kernel⟩
abbrev s_crossing_at : Stmt := topS 46
theorem sc_crossing_at : FnScope ["net", "ways", "place"] ["net", "ways", "place"] (defScope s_crossing_at) := ⟨rfl, rfl, rfl, by decide +kernel, rfl, by decide +kernel, by decide +kernel⟩
abbrev s_are_hues : Stmt := topS 49
theorem sc_are_hues : FnScope ["net", "ways", "h", "hues", "hue"] ["net", "ways", "h", "hues"] (defScope s_are_hues) := ⟨rfl, rfl, rfl, by decide +kernel, rfl, by decide +kernel, by decide +kernel⟩
abbrev s_shows_tie : Stmt := topS 50
theorem sc_shows_tie : FnScope ["net", "ways", "h", "paper", "counts"] ["net", "ways", "h", "paper"] (defScope s_shows_tie) := ⟨rfl, rfl, rfl, by decide +kernel, rfl, by decide +kernel, by decide +kernel⟩
abbrev s_shows_lot : Stmt := topS 51
theorem sc_shows_lot : FnScope ["net", "ways", "h", "paper", "crossing"] ["net", "ways", "h", "paper"] (defScope s_shows_lot) := ⟨rfl, rfl, rfl, by decide +kernel, rfl, by decide +kernel, by decide +kernel⟩
abbrev s_shows_fewest : Stmt := topS 52
theorem sc_shows_fewest : FnScope ["net", "ways", "h", "paper"] ["net", "ways", "h", "paper"] (defScope s_shows_fewest) := ⟨rfl, rfl, rfl, by decide +kernel, rfl, by decide +kernel, by decide +kernel⟩
abbrev s_fewest_judged : Stmt := topS 53
theorem sc_fewest_judged : FnScope ["net", "ways", "told"] ["net", "ways", "told"] (defScope s_fewest_judged) := ⟨rfl, rfl, rfl, by decide +kernel, rfl, by decide +kernel, by decide +kernel⟩
abbrev s_lying : Stmt := topS 56
theorem sc_lying : FnScope ["net", "ways", "way"] ["net", "ways"] (defScope s_lying) := ⟨rfl, rfl, rfl, by decide +kernel, rfl, by decide +kernel, by decide +kernel⟩
abbrev s_sum_at : Stmt := topS 57
theorem sc_sum_at : FnScope ["both", "settled", "e", "f", "found", "k", "ties"] ["both", "settled", "e", "f"] (defScope s_sum_at) := ⟨rfl, rfl, rfl, by decide +kernel, rfl, by decide +kernel, by decide +kernel⟩
abbrev s_settle : Stmt := topS 58
theorem sc_settle : FnScope ["settled", "k", "turn", "more"] ["settled", "k", "turn"] (defScope s_settle) := ⟨rfl, rfl, rfl, by decide +kernel, rfl, by decide +kernel, by decide +kernel⟩
abbrev s_is_turn_paper : Stmt := topS 59
theorem sc_is_turn_paper : FnScope ["net", "both", "m", "settled", "paper", "tie", "k", "one", "other"] ["net", "both", "m", "settled", "paper"] (defScope s_is_turn_paper) := ⟨rfl, rfl, rfl, by decide +kernel, rfl, by decide +kernel, by decide +kernel⟩
abbrev s_turn_judged : Stmt := topS 60
theorem sc_turn_judged : FnScope ["net", "ways", "m", "paper"] ["net", "ways", "m", "paper"] (defScope s_turn_judged) := ⟨rfl, rfl, rfl, by decide +kernel, rfl, by decide +kernel, by decide +kernel⟩
abbrev s_law_mix : Stmt := topS 62
theorem sc_law_mix : FnScope ["_law_number", "_law_k", "_law_mixed"] ["_law_number", "_law_k"] (defScope s_law_mix) := ⟨rfl, rfl, rfl, by decide +kernel, rfl, by decide +kernel, by decide +kernel⟩
abbrev s_law_left : Stmt := topS 63
theorem sc_law_left : FnScope ["_law_cell"] ["_law_cell"] (defScope s_law_left) := ⟨rfl, rfl, rfl, by decide +kernel, rfl, by decide +kernel, by decide +kernel⟩
abbrev s_law_draw : Stmt := topS 64
theorem sc_law_draw : FnScope ["_law_left_here", "_law_base", "_law_mixed", "_law_digit"] ["_law_left_here", "_law_base"] (defScope s_law_draw) := ⟨rfl, rfl, rfl, by decide +kernel, rfl, by decide +kernel, by decide +kernel⟩
abbrev s_law_whole : Stmt := topS 65
theorem sc_law_whole : FnScope ["_law_found"] ["_law_found"] (defScope s_law_whole) := ⟨rfl, rfl, rfl, by decide +kernel, rfl, by decide +kernel, by decide +kernel⟩
abbrev s_law_places : Stmt := topS 66
theorem sc_law_places : FnScope ["_law_net_here"] ["_law_net_here"] (defScope s_law_places) := ⟨rfl, rfl, rfl, by decide +kernel, rfl, by decide +kernel, by decide +kernel⟩
abbrev s_law_up : Stmt := topS 67
theorem sc_law_up : FnScope ["_law_net_here", "_law_place", "_law_found"] ["_law_net_here", "_law_place"] (defScope s_law_up) := ⟨rfl, rfl, rfl, by decide +kernel, rfl, by decide +kernel, by decide +kernel⟩
abbrev s_law_ties : Stmt := topS 68
theorem sc_law_ties : FnScope ["_law_net_here", "_law_way", "_law_a", "_law_b", "_law_one", "_law_other", "_law_found", "_law_tie"] ["_law_net_here", "_law_way"] (defScope s_law_ties) := ⟨rfl, rfl, rfl, by decide +kernel, rfl, by decide +kernel, by decide +kernel⟩
abbrev s_law_meet : Stmt := topS 69
theorem sc_law_meet : FnScope ["_law_one", "_law_other", "_law_tie"] ["_law_one", "_law_other"] (defScope s_law_meet) := ⟨rfl, rfl, rfl, by decide +kernel, rfl, by decide +kernel, by decide +kernel⟩
abbrev s_law_meets : Stmt := topS 70
theorem sc_law_meets : FnScope ["_law_net_here", "_law_ways_here", "_law_ties_here", "_law_found", "_law_one", "_law_way", "_law_k"] ["_law_net_here", "_law_ways_here"] (defScope s_law_meets) := ⟨rfl, rfl, rfl, by decide +kernel, rfl, by decide +kernel, by decide +kernel⟩
abbrev s_law_hues_are_so : Stmt := topS 71
theorem sc_law_hues_are_so : FnScope ["_law_meets_here", "_law_h", "_law_hues", "_law_hue", "_law_bad", "_law_k", "_law_other"] ["_law_meets_here", "_law_h", "_law_hues"] (defScope s_law_hues_are_so) := ⟨rfl, rfl, rfl, by decide +kernel, rfl, by decide +kernel, by decide +kernel⟩
abbrev s_law_sum : Stmt := topS 72
theorem sc_law_sum : FnScope ["_law_net_here", "_law_ways_here", "_law_settled", "_law_e", "_law_f", "_law_found", "_law_k", "_law_a", "_law_b", "_law_ties_here"] ["_law_net_here", "_law_ways_here", "_law_settled", "_law_e", "_law_f"] (defScope s_law_sum) := ⟨rfl, rfl, rfl, by decide +kernel, rfl, by decide +kernel, by decide +kernel⟩
abbrev s_law_turn_right : Stmt := topS 73
theorem sc_law_turn_right : FnScope ["_law_net_here", "_law_ways_here", "_law_m", "_law_settled", "_law_paper", "_law_tie", "_law_turn", "_law_more"] ["_law_net_here", "_law_ways_here", "_law_m", "_law_settled", "_law_paper"] (defScope s_law_turn_right) := ⟨rfl, rfl, rfl, by decide +kernel, rfl, by decide +kernel, by decide +kernel⟩
abbrev s_law_net : Stmt := topS 74
theorem sc_law_net : FnScope ["_law_left_here", "_law_many", "_law_way", "_law_k"] ["_law_left_here"] (defScope s_law_net) := ⟨rfl, rfl, rfl, by decide +kernel, rfl, by decide +kernel, by decide +kernel⟩
abbrev s_law_ways : Stmt := topS 75
theorem sc_law_ways : FnScope ["_law_left_here", "_law_net_here", "_law_many", "_law_found", "_law_k", "_law_a", "_law_b"] ["_law_left_here", "_law_net_here", "_law_many"] (defScope s_law_ways) := ⟨rfl, rfl, rfl, by decide +kernel, rfl, by decide +kernel, by decide +kernel⟩
abbrev s_law_hued : Stmt := topS 76
theorem sc_law_hued : FnScope ["_law_meets_here", "_law_hues", "_law_k", "_law_taken", "_law_other", "_law_hue"] ["_law_meets_here"] (defScope s_law_hued) := ⟨rfl, rfl, rfl, by decide +kernel, rfl, by decide +kernel, by decide +kernel⟩
abbrev s_law_bent : Stmt := topS 77
theorem sc_law_bent : FnScope ["_law_left_here", "_law_hues", "_law_at", "_law_way", "_law_found"] ["_law_left_here", "_law_hues"] (defScope s_law_bent) := ⟨rfl, rfl, rfl, by decide +kernel, rfl, by decide +kernel, by decide +kernel⟩
abbrev s_law_fewest_so : Stmt := topS 78
theorem sc_law_fewest_so : FnScope ["_law_left_here", "_law_net_here", "_law_ways_here", "_law_meets_here", "_law_hues", "_law_h", "_law_ties_here", "_law_way", "_law_tie", "_law_one", "_law_due", "_law_handed"] ["_law_left_here"] (defScope s_law_fewest_so) := ⟨rfl, rfl, rfl, by decide +kernel, rfl, by decide +kernel, by decide +kernel⟩
abbrev s_law_leaf : Stmt := topS 79
theorem sc_law_leaf : FnScope ["_law_left_here", "_law_net_here"] ["_law_left_here", "_law_net_here"] (defScope s_law_leaf) := ⟨rfl, rfl, rfl, by decide +kernel, rfl, by decide +kernel, by decide +kernel⟩
abbrev s_law_turn_paper : Stmt := topS 80
theorem sc_law_turn_paper : FnScope ["_law_left_here", "_law_net_here", "_law_ways_here", "_law_one", "_law_two", "_law_three", "_law_again", "_law_inner", "_law_k"] ["_law_left_here", "_law_net_here", "_law_ways_here"] (defScope s_law_turn_paper) := ⟨rfl, rfl, rfl, by decide +kernel, rfl, by decide +kernel, by decide +kernel⟩
abbrev s_law_turns_so : Stmt := topS 81
theorem sc_law_turns_so : FnScope ["_law_left_here", "_law_net_here", "_law_ways_here", "_law_m", "_law_paper", "_law_due", "_law_handed", "_law_found"] ["_law_left_here"] (defScope s_law_turns_so) := ⟨rfl, rfl, rfl, by decide +kernel, rfl, by decide +kernel, by decide +kernel⟩
abbrev s_law : Stmt := topS 82
theorem sc_law : FnScope ["_law_script", "_law_cell", "_law_left_here", "_law_turn"] ["_law_script"] (defScope s_law) := ⟨rfl, rfl, rfl, by decide +kernel, rfl, by decide +kernel, by decide +kernel⟩
structure Ad where
  a_is_tree : Addr
  d_is_tree : FuncData
  a_look_net : Addr
  d_look_net : FuncData
  a_must_be_kind : Addr
  d_must_be_kind : FuncData
  a_places_of : Addr
  d_places_of : FuncData
  a_ties_many : Addr
  d_ties_many : FuncData
  a_is_way : Addr
  d_is_way : FuncData
  a_ties_on : Addr
  d_ties_on : FuncData
  a_must_be_ways : Addr
  d_must_be_ways : FuncData
  a_look_ways : Addr
  d_look_ways : FuncData
  a_look_ring : Addr
  d_look_ring : FuncData
  a_counted : Addr
  d_counted : FuncData
  a_loads : Addr
  d_loads : FuncData
  a_first_clash : Addr
  d_first_clash : FuncData
  a_clash : Addr
  d_clash : FuncData
  a_is_whole : Addr
  d_is_whole : FuncData
  a_have_common : Addr
  d_have_common : FuncData
  a_meetings : Addr
  d_meetings : FuncData
  a_look_few : Addr
  d_look_few : FuncData
  a_look_number : Addr
  d_look_number : FuncData
  a_options : Addr
  d_options : FuncData
  a_is_stuck : Addr
  d_is_stuck : FuncData
  a_with_hue : Addr
  d_with_hue : FuncData
  a_is_right : Addr
  d_is_right : FuncData
  a_must_be_crossing : Addr
  d_must_be_crossing : FuncData
  a_is_lot : Addr
  d_is_lot : FuncData
  a_bound_of : Addr
  d_bound_of : FuncData
  a_lot_bound : Addr
  d_lot_bound : FuncData
  a_ties_at : Addr
  d_ties_at : FuncData
  a_crossing_of : Addr
  d_crossing_of : FuncData
  a_crossing_at : Addr
  d_crossing_at : FuncData
  a_are_hues : Addr
  d_are_hues : FuncData
  a_shows_tie : Addr
  d_shows_tie : FuncData
  a_shows_lot : Addr
  d_shows_lot : FuncData
  a_shows_fewest : Addr
  d_shows_fewest : FuncData
  a_fewest_judged : Addr
  d_fewest_judged : FuncData
  a_lying : Addr
  d_lying : FuncData
  a_sum_at : Addr
  d_sum_at : FuncData
  a_settle : Addr
  d_settle : FuncData
  a_is_turn_paper : Addr
  d_is_turn_paper : FuncData
  a_turn_judged : Addr
  d_turn_judged : FuncData
  a_law_mix : Addr
  d_law_mix : FuncData
  a_law_left : Addr
  d_law_left : FuncData
  a_law_draw : Addr
  d_law_draw : FuncData
  a_law_whole : Addr
  d_law_whole : FuncData
  a_law_places : Addr
  d_law_places : FuncData
  a_law_up : Addr
  d_law_up : FuncData
  a_law_ties : Addr
  d_law_ties : FuncData
  a_law_meet : Addr
  d_law_meet : FuncData
  a_law_meets : Addr
  d_law_meets : FuncData
  a_law_hues_are_so : Addr
  d_law_hues_are_so : FuncData
  a_law_sum : Addr
  d_law_sum : FuncData
  a_law_turn_right : Addr
  d_law_turn_right : FuncData
  a_law_net : Addr
  d_law_net : FuncData
  a_law_ways : Addr
  d_law_ways : FuncData
  a_law_hued : Addr
  d_law_hued : FuncData
  a_law_bent : Addr
  d_law_bent : FuncData
  a_law_fewest_so : Addr
  d_law_fewest_so : FuncData
  a_law_leaf : Addr
  d_law_leaf : FuncData
  a_law_turn_paper : Addr
  d_law_turn_paper : FuncData
  a_law_turns_so : Addr
  d_law_turns_so : FuncData
  a_law : Addr
  d_law : FuncData
structure Txt (K : PySem.W.Frag) (mg : Str → Option Value) (A : Ad) : Prop where
  g_is_tree : mg "is_tree" = some (.ref A.a_is_tree)
  F_is_tree : Fun K "is_tree" "is_tree" s_is_tree A.a_is_tree A.d_is_tree
  b_is_tree : Binds K A.d_is_tree ["parents"] []
  g_look_net : mg "look_net" = some (.ref A.a_look_net)
  F_look_net : Fun K "look_net" "look_net" s_look_net A.a_look_net A.d_look_net
  b_look_net : Binds K A.d_look_net ["net"] []
  g_must_be_kind : mg "must_be_kind" = some (.ref A.a_must_be_kind)
  F_must_be_kind : Fun K "must_be_kind" "must_be_kind" s_must_be_kind A.a_must_be_kind A.d_must_be_kind
  b_must_be_kind : Binds K A.d_must_be_kind ["net", "kind"] []
  g_places_of : mg "places_of" = some (.ref A.a_places_of)
  F_places_of : Fun K "places_of" "places_of" s_places_of A.a_places_of A.d_places_of
  b_places_of : Binds K A.d_places_of ["net"] []
  g_ties_many : mg "ties_many" = some (.ref A.a_ties_many)
  F_ties_many : Fun K "ties_many" "ties_many" s_ties_many A.a_ties_many A.d_ties_many
  b_ties_many : Binds K A.d_ties_many ["net"] []
  g_is_way : mg "is_way" = some (.ref A.a_is_way)
  F_is_way : Fun K "is_way" "is_way" s_is_way A.a_is_way A.d_is_way
  b_is_way : Binds K A.d_is_way ["net", "way"] []
  g_ties_on : mg "ties_on" = some (.ref A.a_ties_on)
  F_ties_on : Fun K "ties_on" "ties_on" s_ties_on A.a_ties_on A.d_ties_on
  b_ties_on : Binds K A.d_ties_on ["net", "way"] []
  g_must_be_ways : mg "must_be_ways" = some (.ref A.a_must_be_ways)
  F_must_be_ways : Fun K "must_be_ways" "must_be_ways" s_must_be_ways A.a_must_be_ways A.d_must_be_ways
  b_must_be_ways : Binds K A.d_must_be_ways ["net", "ways"] []
  g_look_ways : mg "look_ways" = some (.ref A.a_look_ways)
  F_look_ways : Fun K "look_ways" "look_ways" s_look_ways A.a_look_ways A.d_look_ways
  b_look_ways : Binds K A.d_look_ways ["net", "ways"] []
  g_look_ring : mg "look_ring" = some (.ref A.a_look_ring)
  F_look_ring : Fun K "look_ring" "look_ring" s_look_ring A.a_look_ring A.d_look_ring
  b_look_ring : Binds K A.d_look_ring ["net"] []
  g_counted : mg "counted" = some (.ref A.a_counted)
  F_counted : Fun K "counted" "counted" s_counted A.a_counted A.d_counted
  b_counted : Binds K A.d_counted ["net", "ways"] []
  g_loads : mg "loads" = some (.ref A.a_loads)
  F_loads : Fun K "loads" "loads" s_loads A.a_loads A.d_loads
  b_loads : Binds K A.d_loads ["net", "ways"] []
  g_first_clash : mg "first_clash" = some (.ref A.a_first_clash)
  F_first_clash : Fun K "first_clash" "first_clash" s_first_clash A.a_first_clash A.d_first_clash
  b_first_clash : Binds K A.d_first_clash ["lain", "hues"] []
  g_clash : mg "clash" = some (.ref A.a_clash)
  F_clash : Fun K "clash" "clash" s_clash A.a_clash A.d_clash
  b_clash : Binds K A.d_clash ["net", "ways", "hues"] []
  g_is_whole : mg "is_whole" = some (.ref A.a_is_whole)
  F_is_whole : Fun K "is_whole" "is_whole" s_is_whole A.a_is_whole A.d_is_whole
  b_is_whole : Binds K A.d_is_whole ["thing"] []
  g_have_common : mg "have_common" = some (.ref A.a_have_common)
  F_have_common : Fun K "have_common" "have_common" s_have_common A.a_have_common A.d_have_common
  b_have_common : Binds K A.d_have_common ["one", "other"] []
  g_meetings : mg "meetings" = some (.ref A.a_meetings)
  F_meetings : Fun K "meetings" "meetings" s_meetings A.a_meetings A.d_meetings
  b_meetings : Binds K A.d_meetings ["net", "ways"] []
  g_look_few : mg "look_few" = some (.ref A.a_look_few)
  F_look_few : Fun K "look_few" "look_few" s_look_few A.a_look_few A.d_look_few
  b_look_few : Binds K A.d_look_few ["net", "ways", "most"] []
  g_look_number : mg "look_number" = some (.ref A.a_look_number)
  F_look_number : Fun K "look_number" "look_number" s_look_number A.a_look_number A.d_look_number
  b_look_number : Binds K A.d_look_number ["number"] []
  g_options : mg "options" = some (.ref A.a_options)
  F_options : Fun K "options" "options" s_options A.a_options A.d_options
  b_options : Binds K A.d_options ["h", "given"] []
  g_is_stuck : mg "is_stuck" = some (.ref A.a_is_stuck)
  F_is_stuck : Fun K "is_stuck" "is_stuck" s_is_stuck A.a_is_stuck A.d_is_stuck
  b_is_stuck : Binds K A.d_is_stuck ["meets", "given", "k", "hue"] []
  g_with_hue : mg "with_hue" = some (.ref A.a_with_hue)
  F_with_hue : Fun K "with_hue" "with_hue" s_with_hue A.a_with_hue A.d_with_hue
  b_with_hue : Binds K A.d_with_hue ["given", "k", "hue"] []
  g_is_right : mg "is_right" = some (.ref A.a_is_right)
  F_is_right : Fun K "is_right" "is_right" s_is_right A.a_is_right A.d_is_right
  b_is_right : Binds K A.d_is_right ["meets", "h", "given", "case"] []
  g_must_be_crossing : mg "must_be_crossing" = some (.ref A.a_must_be_crossing)
  F_must_be_crossing : Fun K "must_be_crossing" "must_be_crossing" s_must_be_crossing A.a_must_be_crossing A.d_must_be_crossing
  b_must_be_crossing : Binds K A.d_must_be_crossing ["crossing"] []
  g_is_lot : mg "is_lot" = some (.ref A.a_is_lot)
  F_is_lot : Fun K "is_lot" "is_lot" s_is_lot A.a_is_lot A.d_is_lot
  b_is_lot : Binds K A.d_is_lot ["crossing", "lot"] []
  g_bound_of : mg "bound_of" = some (.ref A.a_bound_of)
  F_bound_of : Fun K "bound_of" "bound_of" s_bound_of A.a_bound_of A.d_bound_of
  b_bound_of : Binds K A.d_bound_of ["crossing", "lot"] []
  g_lot_bound : mg "lot_bound" = some (.ref A.a_lot_bound)
  F_lot_bound : Fun K "lot_bound" "lot_bound" s_lot_bound A.a_lot_bound A.d_lot_bound
  b_lot_bound : Binds K A.d_lot_bound ["crossing", "lot"] []
  g_ties_at : mg "ties_at" = some (.ref A.a_ties_at)
  F_ties_at : Fun K "ties_at" "ties_at" s_ties_at A.a_ties_at A.d_ties_at
  b_ties_at : Binds K A.d_ties_at ["net", "place"] []
  g_crossing_of : mg "crossing_of" = some (.ref A.a_crossing_of)
  F_crossing_of : Fun K "crossing_of" "crossing_of" s_crossing_of A.a_crossing_of A.d_crossing_of
  b_crossing_of : Binds K A.d_crossing_of ["net", "ways", "place"] []
  g_crossing_at : mg "crossing_at" = some (.ref A.a_crossing_at)
  F_crossing_at : Fun K "crossing_at" "crossing_at" s_crossing_at A.a_crossing_at A.d_crossing_at
  b_crossing_at : Binds K A.d_crossing_at ["net", "ways", "place"] []
  g_are_hues : mg "are_hues" = some (.ref A.a_are_hues)
  F_are_hues : Fun K "are_hues" "are_hues" s_are_hues A.a_are_hues A.d_are_hues
  b_are_hues : Binds K A.d_are_hues ["net", "ways", "h", "hues"] []
  g_shows_tie : mg "shows_tie" = some (.ref A.a_shows_tie)
  F_shows_tie : Fun K "shows_tie" "shows_tie" s_shows_tie A.a_shows_tie A.d_shows_tie
  b_shows_tie : Binds K A.d_shows_tie ["net", "ways", "h", "paper"] []
  g_shows_lot : mg "shows_lot" = some (.ref A.a_shows_lot)
  F_shows_lot : Fun K "shows_lot" "shows_lot" s_shows_lot A.a_shows_lot A.d_shows_lot
  b_shows_lot : Binds K A.d_shows_lot ["net", "ways", "h", "paper"] []
  g_shows_fewest : mg "shows_fewest" = some (.ref A.a_shows_fewest)
  F_shows_fewest : Fun K "shows_fewest" "shows_fewest" s_shows_fewest A.a_shows_fewest A.d_shows_fewest
  b_shows_fewest : Binds K A.d_shows_fewest ["net", "ways", "h", "paper"] []
  g_fewest_judged : mg "fewest_judged" = some (.ref A.a_fewest_judged)
  F_fewest_judged : Fun K "fewest_judged" "fewest_judged" s_fewest_judged A.a_fewest_judged A.d_fewest_judged
  b_fewest_judged : Binds K A.d_fewest_judged ["net", "ways", "told"] []
  g_lying : mg "lying" = some (.ref A.a_lying)
  F_lying : Fun K "lying" "lying" s_lying A.a_lying A.d_lying
  b_lying : Binds K A.d_lying ["net", "ways"] []
  g_sum_at : mg "sum_at" = some (.ref A.a_sum_at)
  F_sum_at : Fun K "sum_at" "sum_at" s_sum_at A.a_sum_at A.d_sum_at
  b_sum_at : Binds K A.d_sum_at ["both", "settled", "e", "f"] []
  g_settle : mg "settle" = some (.ref A.a_settle)
  F_settle : Fun K "settle" "settle" s_settle A.a_settle A.d_settle
  b_settle : Binds K A.d_settle ["settled", "k", "turn"] []
  g_is_turn_paper : mg "is_turn_paper" = some (.ref A.a_is_turn_paper)
  F_is_turn_paper : Fun K "is_turn_paper" "is_turn_paper" s_is_turn_paper A.a_is_turn_paper A.d_is_turn_paper
  b_is_turn_paper : Binds K A.d_is_turn_paper ["net", "both", "m", "settled", "paper"] []
  g_turn_judged : mg "turn_judged" = some (.ref A.a_turn_judged)
  F_turn_judged : Fun K "turn_judged" "turn_judged" s_turn_judged A.a_turn_judged A.d_turn_judged
  b_turn_judged : Binds K A.d_turn_judged ["net", "ways", "m", "paper"] []
  g_law_mix : mg "_law_mix" = some (.ref A.a_law_mix)
  F_law_mix : Fun K "_law_mix" "_law_mix" s_law_mix A.a_law_mix A.d_law_mix
  b_law_mix : Binds K A.d_law_mix ["_law_number", "_law_k"] []
  g_law_left : mg "_law_left" = some (.ref A.a_law_left)
  F_law_left : Fun K "_law_left" "_law_left" s_law_left A.a_law_left A.d_law_left
  b_law_left : Binds K A.d_law_left ["_law_cell"] []
  g_law_draw : mg "_law_draw" = some (.ref A.a_law_draw)
  F_law_draw : Fun K "_law_draw" "_law_draw" s_law_draw A.a_law_draw A.d_law_draw
  b_law_draw : Binds K A.d_law_draw ["_law_left_here", "_law_base"] []
  g_law_whole : mg "_law_whole" = some (.ref A.a_law_whole)
  F_law_whole : Fun K "_law_whole" "_law_whole" s_law_whole A.a_law_whole A.d_law_whole
  b_law_whole : Binds K A.d_law_whole ["_law_found"] []
  g_law_places : mg "_law_places" = some (.ref A.a_law_places)
  F_law_places : Fun K "_law_places" "_law_places" s_law_places A.a_law_places A.d_law_places
  b_law_places : Binds K A.d_law_places ["_law_net_here"] []
  g_law_up : mg "_law_up" = some (.ref A.a_law_up)
  F_law_up : Fun K "_law_up" "_law_up" s_law_up A.a_law_up A.d_law_up
  b_law_up : Binds K A.d_law_up ["_law_net_here", "_law_place"] []
  g_law_ties : mg "_law_ties" = some (.ref A.a_law_ties)
  F_law_ties : Fun K "_law_ties" "_law_ties" s_law_ties A.a_law_ties A.d_law_ties
  b_law_ties : Binds K A.d_law_ties ["_law_net_here", "_law_way"] []
  g_law_meet : mg "_law_meet" = some (.ref A.a_law_meet)
  F_law_meet : Fun K "_law_meet" "_law_meet" s_law_meet A.a_law_meet A.d_law_meet
  b_law_meet : Binds K A.d_law_meet ["_law_one", "_law_other"] []
  g_law_meets : mg "_law_meets" = some (.ref A.a_law_meets)
  F_law_meets : Fun K "_law_meets" "_law_meets" s_law_meets A.a_law_meets A.d_law_meets
  b_law_meets : Binds K A.d_law_meets ["_law_net_here", "_law_ways_here"] []
  g_law_hues_are_so : mg "_law_hues_are_so" = some (.ref A.a_law_hues_are_so)
  F_law_hues_are_so : Fun K "_law_hues_are_so" "_law_hues_are_so" s_law_hues_are_so A.a_law_hues_are_so A.d_law_hues_are_so
  b_law_hues_are_so : Binds K A.d_law_hues_are_so ["_law_meets_here", "_law_h", "_law_hues"] []
  g_law_sum : mg "_law_sum" = some (.ref A.a_law_sum)
  F_law_sum : Fun K "_law_sum" "_law_sum" s_law_sum A.a_law_sum A.d_law_sum
  b_law_sum : Binds K A.d_law_sum ["_law_net_here", "_law_ways_here", "_law_settled", "_law_e", "_law_f"] []
  g_law_turn_right : mg "_law_turn_right" = some (.ref A.a_law_turn_right)
  F_law_turn_right : Fun K "_law_turn_right" "_law_turn_right" s_law_turn_right A.a_law_turn_right A.d_law_turn_right
  b_law_turn_right : Binds K A.d_law_turn_right ["_law_net_here", "_law_ways_here", "_law_m", "_law_settled", "_law_paper"] []
  g_law_net : mg "_law_net" = some (.ref A.a_law_net)
  F_law_net : Fun K "_law_net" "_law_net" s_law_net A.a_law_net A.d_law_net
  b_law_net : Binds K A.d_law_net ["_law_left_here"] []
  g_law_ways : mg "_law_ways" = some (.ref A.a_law_ways)
  F_law_ways : Fun K "_law_ways" "_law_ways" s_law_ways A.a_law_ways A.d_law_ways
  b_law_ways : Binds K A.d_law_ways ["_law_left_here", "_law_net_here", "_law_many"] []
  g_law_hued : mg "_law_hued" = some (.ref A.a_law_hued)
  F_law_hued : Fun K "_law_hued" "_law_hued" s_law_hued A.a_law_hued A.d_law_hued
  b_law_hued : Binds K A.d_law_hued ["_law_meets_here"] []
  g_law_bent : mg "_law_bent" = some (.ref A.a_law_bent)
  F_law_bent : Fun K "_law_bent" "_law_bent" s_law_bent A.a_law_bent A.d_law_bent
  b_law_bent : Binds K A.d_law_bent ["_law_left_here", "_law_hues"] []
  g_law_fewest_so : mg "_law_fewest_so" = some (.ref A.a_law_fewest_so)
  F_law_fewest_so : Fun K "_law_fewest_so" "_law_fewest_so" s_law_fewest_so A.a_law_fewest_so A.d_law_fewest_so
  b_law_fewest_so : Binds K A.d_law_fewest_so ["_law_left_here"] []
  g_law_leaf : mg "_law_leaf" = some (.ref A.a_law_leaf)
  F_law_leaf : Fun K "_law_leaf" "_law_leaf" s_law_leaf A.a_law_leaf A.d_law_leaf
  b_law_leaf : Binds K A.d_law_leaf ["_law_left_here", "_law_net_here"] []
  g_law_turn_paper : mg "_law_turn_paper" = some (.ref A.a_law_turn_paper)
  F_law_turn_paper : Fun K "_law_turn_paper" "_law_turn_paper" s_law_turn_paper A.a_law_turn_paper A.d_law_turn_paper
  b_law_turn_paper : Binds K A.d_law_turn_paper ["_law_left_here", "_law_net_here", "_law_ways_here"] []
  g_law_turns_so : mg "_law_turns_so" = some (.ref A.a_law_turns_so)
  F_law_turns_so : Fun K "_law_turns_so" "_law_turns_so" s_law_turns_so A.a_law_turns_so A.d_law_turns_so
  b_law_turns_so : Binds K A.d_law_turns_so ["_law_left_here"] []
  g_law : mg "law" = some (.ref A.a_law)
  F_law : Fun K "law" "law" s_law A.a_law A.d_law
  b_law : Binds K A.d_law ["_law_script"] []
  c_MOST_PLACES : mg "MOST_PLACES" = some (.int 60 (g_tok mg "MOST_PLACES"))
  c_MOST_TIES : mg "MOST_TIES" = some (.int 60 (g_tok mg "MOST_TIES"))
  c_MOST_PAIRS : mg "MOST_PAIRS" = some (.int 60 (g_tok mg "MOST_PAIRS"))
  c_MOST_fewest : mg "MOST_fewest" = some (.int 12 (g_tok mg "MOST_fewest"))
  c_MOST_turning : mg "MOST_turning" = some (.int 14 (g_tok mg "MOST_turning"))
  z_bool : mg "bool" = none
  z_dict : mg "dict" = none
  z_enumerate : mg "enumerate" = none
  z_int : mg "int" = none
  z_isinstance : mg "isinstance" = none
  z_len : mg "len" = none
  z_list : mg "list" = none
  z_max : mg "max" = none
  z_min : mg "min" = none
  z_range : mg "range" = none
  z_set : mg "set" = none
  z_sorted : mg "sorted" = none
  z_str : mg "str" = none
  z_tuple : mg "tuple" = none
/-! ### nets -/
inductive Net where
  | line (n : Int)
  | ring (n : Int)
  | tree (ps : List Int)
def Net.kind : Net → Str
  | .line _ => Str.ofString "line"
  | .ring _ => Str.ofString "ring"
  | .tree _ => Str.ofString "tree"
def Net.size : Net → PyData
  | .line n => .int n
  | .ring n => .int n
  | .tree ps => dInts ps
abbrev Net.d (N : Net) : PyData := .tuple [.str N.kind, N.size]
def TreeOk (ps : List Int) : Prop := 1 ≤ ps.length ∧ ps.length < 60 ∧ ∀ k : Nat, k < ps.length → 0 ≤ ps.getD k 0 ∧ ps.getD k 0 ≤ k
def Net.ok : Net → Prop
  | .line n => 2 ≤ n ∧ n ≤ 60
  | .ring n => 3 ≤ n ∧ n ≤ 60
  | .tree ps => TreeOk ps
def Net.places : Net → Int
  | .line n => n
  | .ring n => n
  | .tree ps => ps.length + 1
theorem net_str {s t : Str} (h : decide (V.str s = V.str t) = true) : s = t := V.str.inj (of_decide_eq_true h)
/-- a net's tuple -/
theorem dp_net {K : PySem.W.Frag} {H : Hp} {v : V} {N : Net} (h : Dp K H v N.d) : ∃ a y, v = .ref a ∧ SqT K H a [.str N.kind, y] ∧ Dp K H y N.size := by
  obtain ⟨a, x, y, rfl, hs, hx, hy⟩ := dp_tup2 h
  obtain rfl := dp_str hx
  exact ⟨a, y, rfl, hs, hy⟩
theorem k_eqS {s t : Str} {H : Hp} {Q : VK} (h : Q (.bl (decide (s = t))) H) : rEq (.str s) (.str t) H Q := ⟨rfl, by
  have e : decide (V.str s = V.str t) = decide (s = t) := by
    by_cases c : s = t
    · rw [decide_eq_true c, decide_eq_true (by rw [c])]
    · rw [decide_eq_false c, decide_eq_false (fun z => c (V.str.inj z))]
  rw [e]; exact h⟩
theorem k_neS {s t : Str} {H : Hp} {Q : VK} (h : Q (.bl (!decide (s = t))) H) : rNe (.str s) (.str t) H Q := ⟨rfl, by
  have e : decide (V.str s = V.str t) = decide (s = t) := by
    by_cases c : s = t
    · rw [decide_eq_true c, decide_eq_true (by rw [c])]
    · rw [decide_eq_false c, decide_eq_false (fun z => c (V.str.inj z))]
  rw [e]; exact h⟩
theorem s_lt : decide (Str.ofString "line" = Str.ofString "tree") = false := by decide +kernel
theorem s_rt : decide (Str.ofString "ring" = Str.ofString "tree") = false := by decide +kernel
theorem s_lr : decide (Str.ofString "line" = Str.ofString "ring") = false := by decide +kernel
theorem s_rl : decide (Str.ofString "ring" = Str.ofString "line") = false := by decide +kernel
theorem s_tl : decide (Str.ofString "tree" = Str.ofString "line") = false := by decide +kernel
theorem s_tr : decide (Str.ofString "tree" = Str.ofString "ring") = false := by decide +kernel
theorem s_same (s : Str) : decide (s = s) = true := decide_eq_true rfl
/-- how far t lies up from a on a ring of n -/
def up (n a t : Int) : Int := if a ≤ t then t - a else t - a + n
/-- x lies in the part of the tree that hangs by k -/
def below (ps : List Int) (k : Nat) : Nat → Bool
  | 0 => decide (k = 0)
  | x + 1 => decide (k = x + 1) || (decide (k < x + 1) && if h : (ps.getD x 0).toNat < x + 1 then below ps k (ps.getD x 0).toNat else false)
termination_by x => x
decreasing_by exact h
def OnTie : Net → Int → Int → Int → Prop
  | .line _, a, b, t => min a b ≤ t ∧ t < max a b
  | .ring n, a, b, t => 0 ≤ t ∧ t < n ∧ up n a t < up n a b
  | .tree ps, a, b, t => 0 ≤ t ∧ t < ps.length ∧ below ps (t.toNat + 1) a.toNat ≠ below ps (t.toNat + 1) b.toNat
def Net.far : Net → Int → Int → List Int → Prop
  | .line _, a, b, ns => (ns.length : Int) = max a b - min a b
  | .ring n, a, b, ns => (ns.length : Int) = up n a b
  | .tree _, _, _, ns => ns.length < 120
def isWay (N : Net) (a b : Int) : Prop := a ≠ b ∧ 0 ≤ a ∧ 0 ≤ b ∧ a < N.places ∧ b < N.places
instance (N : Net) (a b : Int) : Decidable (isWay N a b) := by unfold isWay; infer_instance
structure TiesOf (N : Net) (a b : Int) (ns : List Int) : Prop where
  srt : ns.Pairwise (· < ·)
  mem : ∀ t, t ∈ ns ↔ OnTie N a b t
  far : N.far a b ns

variable {P : Program} {w : World} {K : PySem.W.Frag} {mg : Str → Option Value} {base : Heap} {A : Ad}
def pr_is_tree (K : PySem.W.Frag) (v0 : V) (H : Hp) (Q : VK) (_ : XK) : Prop := ∃ ps, Dp K H v0 (dInts ps) ∧ ps.length ≤ 10000 ∧ ∀ b, (b = true ↔ TreeOk ps) → Q (.bl b) H
def t_is_tree (K : PySem.W.Frag) : TS :=
  (tSeq (tIfS (tOr (tTest (tOp xLt (tCB (rLenX K) (tCons (tVar 0) tNil)) (tC (.int 1)))) (tTest (tOp xGe (tCB (rLenX K) (tCons (tVar 0) tNil)) (tC (.int 60))))) (tRet (tC (.bl false))) tNext)
    (tSeq (tFor (iRng1 (tCons (tCB (rLenX K) (tCons (tVar 0) tNil)) tNil)) (gName 1)
      (tIfS (tOr (tTest (tOp xLt (tOp (rIxL K) (tVar 0) (tVar 1)) (tC (.int 0)))) (tTest (tOp xGt (tOp (rIxL K) (tVar 0) (tVar 1)) (tVar 1)))) (tRet (tC (.bl false))) tNext))
    (tRet (tC (.bl true)))))
theorem pure_is_tree {v0 : V} {H : Hp} {Q : VK} {E : XK} (h : pr_is_tree K v0 H Q E) : t_is_tree K ⟨fun _ H' => Q .non H', Q, fun _ _ => False, fun _ _ => False⟩ [some v0, none] H := by
  obtain ⟨ps, hp, hz, q⟩ := h
  obtain ⟨a, rfl, ha⟩ := dp_ints hp
  unfold t_is_tree
  wtm_at "s"
  refine k_it (fun c1 => ?_) (fun c1 => ?_)
  · wtm_at "s"
    exact q _ (ff_iff fun z => absurd z.1 (by omega))
  wtm_at "s"
  refine k_it (fun c2 => ?_) (fun c2 => ?_)
  · wtm_at "s"
    exact q _ (ff_iff fun z => absurd z.2.1 (by omega))
  wtm_at "s"
  refine forR (fun i σ' H' => H' = H ∧ (∃ k, σ' = [some (.ref a), k]) ∧ ∀ k : Nat, k < i → 0 ≤ ps.getD k 0 ∧ ps.getD k 0 ≤ k) ⟨rfl, ⟨none, rfl⟩, fun k hk => absurd hk (by omega)⟩ ?_ ?_
  · rintro i σ' H' hi ⟨rfl, ⟨k, rfl⟩, hk⟩
    wtm_at "s"
    refine k_ixI ha (by omega) (by omega) ?_
    wtm_at "s"
    rw [show (0 + (i : Int)).toNat = i by omega]
    refine k_it (fun c3 => ?_) (fun c3 => ?_)
    · wtm_at "s"
      exact q _ (ff_iff fun z => absurd (z.2.2 i (by omega)).1 (by omega))
    wtm_at "s"
    refine k_ixI ha (by omega) (by omega) ?_
    wtm_at "s"
    rw [show (0 + (i : Int)).toNat = i by omega]
    refine k_it (fun c4 => ?_) (fun c4 => ?_)
    · wtm_at "s"
      exact q _ (ff_iff fun z => absurd (z.2.2 i (by omega)).2 (by omega))
    wtm_at "s"
    refine ⟨rfl, ⟨_, rfl⟩, fun k hk' => ?_⟩
    by_cases e : k = i
    · subst e; omega
    · exact hk k (by omega)
  · rintro σ' H' ⟨rfl, ⟨k, rfl⟩, hk⟩
    wtm_at "s"
    exact q _ (tt_iff ⟨by omega, by omega, fun k h => hk k (by omega)⟩)
abbrev sp_is_tree (K : PySem.W.Frag) : Sp := fun vs H Q E => ∃ v0, vs = [v0] ∧ pr_is_tree K v0 H Q E
theorem ok_is_tree (T : Txt K mg A) : FnOk P w K mg base CX0 1 A.a_is_tree A.d_is_tree ["parents"] (sp_is_tree K) := by
  refine T.F_is_tree.ok sc_is_tree (fun vs H Q E h => by obtain ⟨v0, rfl, _⟩ := h; rfl) (fun cdv A0 outer s H vs Q E hr h => ?_)
  obtain ⟨v0, rfl, h⟩ := h
  exact ⟨t_is_tree K, (pss_cons (ps_if (PW.pt (pw_or (pt_cmpR op_lt (pe_callB q_len (by rfl) T.z_len (by decide +kernel) (pa_cons (pv 0) pa_nil)) pe_int (nomark _)) (pw_or1 (pt_cmpR op_ge (pe_callB q_len (by rfl) T.z_len (by decide +kernel) (pa_cons (pv 0) pa_nil)) (pe_glob (v := .int 60) (by rfl) T.c_MOST_PLACES ⟨_, rfl⟩) (nomark _))))) (pss_one (ps_ret pe_bl)) pss_nil)
      (pss_cons (ps_for PassesOwn.never rfl (pi_range1 (by rfl) T.z_range (pa_cons (pe_callB q_len (by rfl) T.z_len (by decide +kernel) (pa_cons (pv 0) pa_nil)) pa_nil)) (pg_name (i := 1) sc_is_tree.nd rfl (Or.inl rfl))
      (pss_one (ps_if (PW.pt (pw_or (pt_cmpR op_lt (pe_ix ix_list (pv 0) (pv 1) (fun _ _ => rfl)) pe_int (nomark _)) (pw_or1 (pt_cmpR op_gt (pe_ix ix_list (pv 0) (pv 1) (fun _ _ => rfl)) (pv 1) (nomark _))))) (pss_one (ps_ret pe_bl)) pss_nil)))
      (pss_one (ps_ret pe_bl)))), pure_is_tree h⟩
def pr_look_net (K : PySem.W.Frag) (v0 : V) (H : Hp) (Q : VK) (_ : XK) : Prop := ∃ N : Net, Dp K H v0 N.d ∧ N.ok ∧ Q .non H
def t_look_net (K : PySem.W.Frag) : TS :=
  (tSeq (tAsg (tVar 0) (gTup K 2 (gCons (gName 1) (gCons (gName 2) gNil))))
    (tSeq (tIfS (tTest (tOp rEq (tVar 1) (tC (.str (Str.ofString "tree"))))) (tAsg (tAndV (tCB (rIsi K) (tCons (tVar 2) (tCons (tC (.ty "list")) tNil))) (tCall (sp_is_tree K) [] E0 (tCons (tVar 2) tNil))) (gName 3)) (tIfS (tOr (tTest (tOp rEq (tVar 1) (tC (.str (Str.ofString "line"))))) (tTest (tOp rEq (tVar 1) (tC (.str (Str.ofString "ring")))))) (tAsg (tAndV (tNotV (tCB (rIsi K) (tCons (tVar 2) (tCons (tC (.ty "list")) tNil)))) (tAndV (tOp xGe (tVar 2) (tOp xAdd (tC (.int 2)) (tCB rIntOf (tCons (tOp rEq (tVar 1) (tC (.str (Str.ofString "ring")))) tNil)))) (tOp xLe (tVar 2) (tC (.int 60))))) (gName 3)) (tAsg (tC (.bl false)) (gName 3))))
    (tIfS (tNot (tB (tVar 3))) tNever tNext)))
theorem pure_look_net {v0 : V} {H : Hp} {Q : VK} {E : XK} (h : pr_look_net K v0 H Q E) : t_look_net K ⟨fun _ H' => Q .non H', Q, fun _ _ => False, fun _ _ => False⟩ [some v0, none, none, none] H := by
  obtain ⟨N, hd, ok, q⟩ := h
  obtain ⟨a, y, rfl, hs, hy⟩ := dp_net hd
  unfold t_look_net
  cases N with
  | line n =>
    obtain rfl := dp_int hy
    obtain ⟨o1, o2⟩ := ok
    wtm_at "s"
    refine k_eqS ?_
    rw [show Net.kind (.line n) = Str.ofString "line" from rfl, s_lt]
    wtm_at "s"
    refine k_eqS ?_
    rw [s_same]
    wtm_at "s"
    refine k_eqS ?_
    rw [s_lr]
    wtm_at "s"
    have e1 : decide (2 + (if false = true then 1 else 0) ≤ n) = true := by simp; omega
    rw [e1]
    wtm_at "s"
    exact q
  | ring n =>
    obtain rfl := dp_int hy
    obtain ⟨o1, o2⟩ := ok
    wtm_at "s"
    refine k_eqS ?_
    rw [show Net.kind (.ring n) = Str.ofString "ring" from rfl, s_rt]
    wtm_at "s"
    refine k_eqS ?_
    rw [s_rl]
    wtm_at "s"
    refine k_eqS ?_
    rw [s_same]
    wtm_at "s"
    refine k_eqS ?_
    rw [s_same]
    wtm_at "s"
    exact q
  | tree ps =>
    obtain ⟨b, rfl, hb⟩ := dp_ints hy
    wtm_at "s"
    refine k_eqS ?_
    rw [show Net.kind (.tree ps) = Str.ofString "tree" from rfl, s_same]
    wtm_at "s"
    refine ⟨_, rfl, ps, hy, by have := ok.2.1; omega, fun r hr => ?_⟩
    obtain rfl := hr.mpr ok
    wtm_at "s"
    exact q
abbrev sp_look_net (K : PySem.W.Frag) : Sp := fun vs H Q E => ∃ v0, vs = [v0] ∧ pr_look_net K v0 H Q E
theorem ok_look_net (T : Txt K mg A) : FnOk P w K mg base CX0 2 A.a_look_net A.d_look_net ["net"] (sp_look_net K) := by
  refine T.F_look_net.ok sc_look_net (fun vs H Q E h => by obtain ⟨v0, rfl, _⟩ := h; rfl) (fun cdv A0 outer s H vs Q E hr h => ?_)
  obtain ⟨v0, rfl, h⟩ := h
  exact ⟨t_look_net K, (pss_cons (ps_asg (pv 0) (pg_tup (by rfl) (pgs_cons (pg_name (i := 1) sc_look_net.nd rfl (Or.inl rfl)) (pgs_cons (pg_name (i := 2) sc_look_net.nd rfl (Or.inl rfl)) pgs_nil))))
      (pss_cons (ps_if (pt_cmpR op_eq (pv 1) pe_str (nomark _)) (pss_one (ps_set (i := 3) sc_look_net.nd rfl (Or.inl rfl) (pe_and (pe_callB q_isi (by rfl) T.z_isinstance (by decide +kernel) (pa_cons (pv 2) (pa_cons (pe_bltn (v := .ty "list") (by rfl) T.z_list (by decide +kernel) rfl) pa_nil))) (pe_one (pe_call (ok_is_tree T) (hr.mono (by decide)) (by rfl) T.g_is_tree T.F_is_tree.kp T.b_is_tree .nil pass0 (pa_cons (pv 2) pa_nil)))))) (pss_one (ps_if (PW.pt (pw_or (pt_cmpR op_eq (pv 1) pe_str (nomark _)) (pw_or1 (pt_cmpR op_eq (pv 1) pe_str (nomark _))))) (pss_one (ps_set (i := 3) sc_look_net.nd rfl (Or.inl rfl) (pe_and (pe_not (pe_callB q_isi (by rfl) T.z_isinstance (by decide +kernel) (pa_cons (pv 2) (pa_cons (pe_bltn (v := .ty "list") (by rfl) T.z_list (by decide +kernel) rfl) pa_nil)))) (pe_and (pe_cmpR op_ge (pv 2) (pe_op op_add pe_int (pe_callTy q_intB (by rfl) T.z_int (by decide +kernel) (pa_cons (pe_cmpR op_eq (pv 1) pe_str (nomark _)) pa_nil))) (nomark _)) (pe_one (pe_cmpR op_le (pv 2) (pe_glob (v := .int 60) (by rfl) T.c_MOST_PLACES ⟨_, rfl⟩) (nomark _))))))) (pss_one (ps_set (i := 3) sc_look_net.nd rfl (Or.inl rfl) pe_bl)))))
      (pss_one (ps_if (pt_not (pt_val (pv 3))) (pss_one ps_never) pss_nil)))), pure_look_net h⟩
def pr_must_be_kind (K : PySem.W.Frag) (v0 v1 : V) (H : Hp) (Q : VK) (_ : XK) : Prop := ∃ N : Net, Dp K H v0 N.d ∧ N.ok ∧ v1 = .str N.kind ∧ Q .non H
def t_must_be_kind (K : PySem.W.Frag) : TS :=
  (tSeq (tDrop (tCall (sp_look_net K) [] E0 (tCons (tVar 0) tNil)))
    (tIfS (tTest (tOp rNe (tOp (rIxT K) (tVar 0) (tC (.int 0))) (tVar 1))) tNever tNext))
theorem pure_must_be_kind {v0 v1 : V} {H : Hp} {Q : VK} {E : XK} (h : pr_must_be_kind K v0 v1 H Q E) : t_must_be_kind K ⟨fun _ H' => Q .non H', Q, fun _ _ => False, fun _ _ => False⟩ [some v0, some v1] H := by
  obtain ⟨N, hd, ok, rfl, q⟩ := h
  obtain ⟨a, y, rfl, hs, hy⟩ := dp_net hd
  unfold t_must_be_kind
  wtm_at "s"
  refine ⟨_, rfl, N, hd, ok, ?_⟩
  wtm_at "s"
  refine k_neS ?_
  rw [s_same]
  wtm_at "s"
  exact q
abbrev sp_must_be_kind (K : PySem.W.Frag) : Sp := fun vs H Q E => ∃ v0 v1, vs = [v0, v1] ∧ pr_must_be_kind K v0 v1 H Q E
theorem ok_must_be_kind (T : Txt K mg A) : FnOk P w K mg base CX0 3 A.a_must_be_kind A.d_must_be_kind ["net", "kind"] (sp_must_be_kind K) := by
  refine T.F_must_be_kind.ok sc_must_be_kind (fun vs H Q E h => by obtain ⟨v0, v1, rfl, _⟩ := h; rfl) (fun cdv A0 outer s H vs Q E hr h => ?_)
  obtain ⟨v0, v1, rfl, h⟩ := h
  exact ⟨t_must_be_kind K, (pss_cons (ps_expr (pe_call (ok_look_net T) (hr.mono (by decide)) (by rfl) T.g_look_net T.F_look_net.kp T.b_look_net .nil pass0 (pa_cons (pv 0) pa_nil)))
      (pss_one (ps_if (pt_cmpR op_ne (pe_ix ix_tup (pv 0) pe_int (fun _ _ => rfl)) (pv 1) (nomark _)) (pss_one ps_never) pss_nil))), pure_must_be_kind h⟩


def pr_places_of (K : PySem.W.Frag) (v0 : V) (H : Hp) (Q : VK) (_ : XK) : Prop := ∃ N : Net, Dp K H v0 N.d ∧ Q (.int N.places) H
def t_places_of (K : PySem.W.Frag) : TS :=
  (tSeq (tIfS (tTest (tOp rEq (tOp (rIxT K) (tVar 0) (tC (.int 0))) (tC (.str (Str.ofString "tree"))))) (tRet (tOp xAdd (tCB (rLenX K) (tCons (tOp (rIxT K) (tVar 0) (tC (.int 1))) tNil)) (tC (.int 1)))) tNext)
    (tRet (tOp (rIxT K) (tVar 0) (tC (.int 1)))))
theorem pure_places_of {v0 : V} {H : Hp} {Q : VK} {E : XK} (h : pr_places_of K v0 H Q E) : t_places_of K ⟨fun _ H' => Q .non H', Q, fun _ _ => False, fun _ _ => False⟩ [some v0] H := by
  obtain ⟨N, hd, q⟩ := h
  obtain ⟨a, y, rfl, hs, hy⟩ := dp_net hd
  unfold t_places_of
  wtm_at "s"
  refine k_eqS ?_
  cases N with
  | line n =>
    obtain rfl := dp_int hy
    rw [show Net.kind (.line n) = Str.ofString "line" from rfl, s_lt]
    wtm_at "s"
    exact q
  | ring n =>
    obtain rfl := dp_int hy
    rw [show Net.kind (.ring n) = Str.ofString "ring" from rfl, s_rt]
    wtm_at "s"
    exact q
  | tree ps =>
    obtain ⟨b, rfl, hb⟩ := dp_ints hy
    rw [show Net.kind (.tree ps) = Str.ofString "tree" from rfl, s_same]
    wtm_at "s"
    exact q
abbrev sp_places_of (K : PySem.W.Frag) : Sp := fun vs H Q E => ∃ v0, vs = [v0] ∧ pr_places_of K v0 H Q E
theorem ok_places_of (T : Txt K mg A) : FnOk P w K mg base CX0 1 A.a_places_of A.d_places_of ["net"] (sp_places_of K) := by
  refine T.F_places_of.ok sc_places_of (fun vs H Q E h => by obtain ⟨v0, rfl, _⟩ := h; rfl) (fun cdv A0 outer s H vs Q E hr h => ?_)
  obtain ⟨v0, rfl, h⟩ := h
  exact ⟨t_places_of K, (pss_cons (ps_if (pt_cmpR op_eq (pe_ix ix_tup (pv 0) pe_int (fun _ _ => rfl)) pe_str (nomark _)) (pss_one (ps_ret (pe_op op_add (pe_callB q_len (by rfl) T.z_len (by decide +kernel) (pa_cons (pe_ix ix_tup (pv 0) pe_int (fun _ _ => rfl)) pa_nil)) pe_int))) pss_nil)
      (pss_one (ps_ret (pe_ix ix_tup (pv 0) pe_int (fun _ _ => rfl))))), pure_places_of h⟩
def pr_is_way (K : PySem.W.Frag) (v0 v1 : V) (H : Hp) (Q : VK) (_ : XK) : Prop := ∃ (N : Net) (a b : Int), Dp K H v0 N.d ∧ Dp K H v1 (dPair (a, b)) ∧ Q (.bl (decide (isWay N a b))) H
def t_is_way (K : PySem.W.Frag) : TS :=
  (tSeq (tAsg (tVar 1) (gTup K 2 (gCons (gName 2) (gCons (gName 3) gNil))))
    (tRet (tAndV (tOp rNe (tVar 2) (tVar 3)) (tAndV (tOp xGe (tCB rMin2 (tCons (tVar 2) (tCons (tVar 3) tNil))) (tC (.int 0))) (tOp xLt (tCB rMax2 (tCons (tVar 2) (tCons (tVar 3) tNil))) (tCall (sp_places_of K) [] E0 (tCons (tVar 0) tNil)))))))
theorem pure_is_way {v0 v1 : V} {H : Hp} {Q : VK} {E : XK} (h : pr_is_way K v0 v1 H Q E) : t_is_way K ⟨fun _ H' => Q .non H', Q, fun _ _ => False, fun _ _ => False⟩ [some v0, some v1, none, none] H := by
  obtain ⟨N, a, b, hd, hw, q⟩ := h
  obtain ⟨p, rfl, hp⟩ := dp_pair hw
  have kk : ∀ r : Bool, (r = true ↔ isWay N a b) → Q (.bl r) H := fun r hr => by
    have : r = decide (isWay N a b) := by
      by_cases c : isWay N a b
      · rw [decide_eq_true c]; exact hr.mpr c
      · rw [decide_eq_false c]
        cases r with
        | false => rfl
        | true => exact absurd (hr.mp rfl) c
    rw [this]; exact q
  unfold t_is_way
  wtm_at "s"
  refine k_itn (fun c1 => ?_) (fun c1 => ?_)
  · wtm_at "s"
    refine k_it (fun c2 => ?_) (fun c2 => ?_)
    · wtm_at "s"
      refine ⟨_, rfl, N, hd, ?_⟩
      wtm_at "s"
      refine kk _ ?_
      simp only [decide_eq_true_eq, isWay]
      constructor
      · intro z
        split at z <;> split at c2 <;> omega
      · intro z
        split <;> omega
    · wtm_at "s"
      refine kk _ (ff_iff fun z => c2 ?_)
      obtain ⟨z1, z2, z3, z4, z5⟩ := z
      split <;> omega
  · wtm_at "s"
    exact kk _ (ff_iff fun z => z.1 c1)
abbrev sp_is_way (K : PySem.W.Frag) : Sp := fun vs H Q E => ∃ v0 v1, vs = [v0, v1] ∧ pr_is_way K v0 v1 H Q E
theorem ok_is_way (T : Txt K mg A) : FnOk P w K mg base CX0 2 A.a_is_way A.d_is_way ["net", "way"] (sp_is_way K) := by
  refine T.F_is_way.ok sc_is_way (fun vs H Q E h => by obtain ⟨v0, v1, rfl, _⟩ := h; rfl) (fun cdv A0 outer s H vs Q E hr h => ?_)
  obtain ⟨v0, v1, rfl, h⟩ := h
  exact ⟨t_is_way K, (pss_cons (ps_asg (pv 1) (pg_tup (by rfl) (pgs_cons (pg_name (i := 2) sc_is_way.nd rfl (Or.inl rfl)) (pgs_cons (pg_name (i := 3) sc_is_way.nd rfl (Or.inl rfl)) pgs_nil))))
      (pss_one (ps_ret (pe_and (pe_cmpR op_ne (pv 2) (pv 3) (nomark _)) (pe_and (pe_cmpR op_ge (pe_callB (q_min2 (by rfl)) (by rfl) T.z_min (by decide +kernel) (pa_cons (pv 2) (pa_cons (pv 3) pa_nil))) pe_int (nomark _)) (pe_one (pe_cmpR op_lt (pe_callB (q_max2 (by rfl)) (by rfl) T.z_max (by decide +kernel) (pa_cons (pv 2) (pa_cons (pv 3) pa_nil))) (pe_call (ok_places_of T) (hr.mono (by decide)) (by rfl) T.g_places_of T.F_places_of.kp T.b_places_of .nil pass0 (pa_cons (pv 0) pa_nil)) (nomark _)))))))), pure_is_way h⟩


theorem below_lt {ps : List Int} {k : Nat} : ∀ x, x < k → below ps k x = false
  | 0, h => by unfold below; exact decide_eq_false (by omega)
  | x + 1, h => by
    unfold below
    rw [decide_eq_false (show ¬ k = x + 1 by omega), decide_eq_false (show ¬ k < x + 1 by omega)]; rfl
theorem below_self {ps : List Int} (k : Nat) : below ps k k = true := by
  cases k with
  | zero => unfold below; rfl
  | succ x => unfold below; rw [decide_eq_true rfl]; rfl
theorem below_step {ps : List Int} (h : TreeOk ps) {k x : Nat} (hx : x < ps.length) (hk : k ≠ x + 1) : below ps k (x + 1) = below ps k (ps.getD x 0).toNat := by
  have hp := h.2.2 x hx
  have hlt : (ps.getD x 0).toNat < x + 1 := by omega
  rw [below, decide_eq_false hk, Bool.false_or, dif_pos hlt]
  by_cases c : k < x + 1
  · rw [decide_eq_true c, Bool.true_and]
  · rw [decide_eq_false c, Bool.false_and, below_lt _ (by omega)]
theorem ring_step {n a b t : Int} (a0 : 0 ≤ a) (a1 : a < n) (b0 : 0 ≤ b) (b1 : b < n) (ne : a ≠ b) (t0 : 0 ≤ t) (t1 : t < n) :
    (up n a t < up n a b ↔ t = a ∨ up n ((a + 1) % n) t < up n ((a + 1) % n) b) ∧ (t = a → ¬ up n ((a + 1) % n) t < up n ((a + 1) % n) b) := by
  have e : (a + 1) % n = if a + 1 = n then 0 else a + 1 := by
    split
    · rename_i h; rw [h]; exact Int.emod_self
    · exact Int.emod_eq_of_lt (by omega) (by omega)
  rw [e]
  unfold up
  constructor
  · constructor
    · intro h; repeat' split at h
      all_goals repeat' split
      all_goals omega
    · intro h; repeat' split at h
      all_goals repeat' split
      all_goals omega
  · intro h; subst h
    repeat' split
    all_goals omega
theorem ring_far {n a b : Int} (a0 : 0 ≤ a) (a1 : a < n) (b0 : 0 ≤ b) (b1 : b < n) (ne : a ≠ b) : up n ((a + 1) % n) b = up n a b - 1 ∧ 0 ≤ (a + 1) % n ∧ (a + 1) % n < n ∧ 0 < up n a b ∧ up n a b < n := by
  have e : (a + 1) % n = if a + 1 = n then 0 else a + 1 := by
    split
    · rename_i h; rw [h]; exact Int.emod_self
    · exact Int.emod_eq_of_lt (by omega) (by omega)
  rw [e]
  unfold up
  refine ⟨?_, ?_, ?_, ?_, ?_⟩ <;> repeat' split
  all_goals omega
theorem up_self (n a : Int) : up n a a = 0 := by unfold up; split <;> omega
theorem up_nonneg {n a b : Int} (a0 : 0 ≤ a) (a1 : a < n) (b0 : 0 ≤ b) (b1 : b < n) : 0 ≤ up n a b := by unfold up; split <;> omega
/-- the greater end climbs -/
theorem tree_step {ps : List Int} (h : TreeOk ps) {x y t : Int} (x0 : 0 ≤ x) (x1 : x < ps.length + 1) (y0 : 0 ≤ y) (yx : y < x) (t0 : 0 ≤ t) :
    (below ps (t.toNat + 1) x.toNat ≠ below ps (t.toNat + 1) y.toNat ↔ t = x - 1 ∨ below ps (t.toNat + 1) (ps.getD (x - 1).toNat 0).toNat ≠ below ps (t.toNat + 1) y.toNat) ∧
    (t = x - 1 → ¬ below ps (t.toNat + 1) (ps.getD (x - 1).toNat 0).toNat ≠ below ps (t.toNat + 1) y.toNat) := by
  have hp := h.2.2 (x - 1).toNat (by omega)
  by_cases c : t = x - 1
  · subst c
    have e1 : (x - 1).toNat + 1 = x.toNat := by omega
    rw [e1, below_self, below_lt y.toNat (by omega), below_lt (ps.getD (x - 1).toNat 0).toNat (by omega)]
    simp
  · have e1 : x.toNat = (x - 1).toNat + 1 := by omega
    have := below_step h (k := t.toNat + 1) (x := (x - 1).toNat) (by omega) (by omega)
    rw [e1, this]
    simp [c]
theorem srt_of {fs ns : List Int} (nd : fs.Nodup) (pm : ns.Perm fs) (srt : ns.Pairwise (· ≤ ·)) : ns.Pairwise (· < ·) := by
  have := srt.and (pm.nodup_iff.mpr nd)
  exact this.imp fun ⟨a, b⟩ => by omega
def pr_ties_on (K : PySem.W.Frag) (v0 v1 : V) (H : Hp) (Q : VK) (_ : XK) : Prop := ∃ (N : Net) (a b : Int), Dp K H v0 N.d ∧ Dp K H v1 (dPair (a, b)) ∧ N.ok ∧ isWay N a b ∧ ∀ p ns H', H p = none → Same H H' → H' p = some (.lst (List.map V.int ns)) → TiesOf N a b ns → Q (.ref p) H'
def t_ties_on (K : PySem.W.Frag) : TS :=
  (tSeq (tAsg (tVar 1) (gTup K 2 (gCons (gName 2) (gCons (gName 3) gNil))))
    (tSeq (tAsg (tLst tNil) (gName 4))
    (tSeq (tIfS (tTest (tOp rEq (tOp (rIxT K) (tVar 0) (tC (.int 0))) (tC (.str (Str.ofString "line"))))) (tRet (tLstRg (tRg2 (tCB rMin2 (tCons (tVar 2) (tCons (tVar 3) tNil))) (tCB rMax2 (tCons (tVar 2) (tCons (tVar 3) tNil)))))) tNext)
    (tSeq (tWhile (tTest (tOp rNe (tVar 2) (tVar 3)))
      (tIfS (tTest (tOp rEq (tOp (rIxT K) (tVar 0) (tC (.int 0))) (tC (.str (Str.ofString "ring"))))) (tSeq (tDrop (tBM K "list" rAppend (tVar 4) (tCons (tVar 2) tNil)))
    (tAsg (tOp xMod (tOp xAdd (tVar 2) (tC (.int 1))) (tOp (rIxT K) (tVar 0) (tC (.int 1)))) (gName 2))) (tIfS (tTest (tOp xGt (tVar 2) (tVar 3))) (tSeq (tDrop (tBM K "list" rAppend (tVar 4) (tCons (tOp xSub (tVar 2) (tC (.int 1))) tNil)))
    (tAsg (tOp (rIxL K) (tOp (rIxT K) (tVar 0) (tC (.int 1))) (tOp xSub (tVar 2) (tC (.int 1)))) (gName 2))) (tSeq (tDrop (tBM K "list" rAppend (tVar 4) (tCons (tOp xSub (tVar 3) (tC (.int 1))) tNil)))
    (tAsg (tOp (rIxL K) (tOp (rIxT K) (tVar 0) (tC (.int 1))) (tOp xSub (tVar 3) (tC (.int 1)))) (gName 3))))))
    (tRet (tCB (rSortedI K) (tCons (tVar 4) tNil)))))))
def Net.far2 (N : Net) (a b a' b' : Int) (fs : List Int) (m : Nat) : Prop := match N with
  | .line _ => True
  | .ring n => (m : Int) = up n a' b' ∧ (fs.length : Int) + m = up n a b
  | .tree _ => (m : Int) = a' + b' ∧ (fs.length : Int) + m ≤ a + b
theorem pure_ties_on {v0 v1 : V} {H : Hp} {Q : VK} {E : XK} (h : pr_ties_on K v0 v1 H Q E) : t_ties_on K ⟨fun _ H' => Q .non H', Q, fun _ _ => False, fun _ _ => False⟩ [some v0, some v1, none, none, none] H := by
  obtain ⟨N, a, b, hd, hw, ok, ⟨w1, w2, w3, w4, w5⟩, q⟩ := h
  obtain ⟨c, y, rfl, hs, hy⟩ := dp_net hd
  obtain ⟨p, rfl, hp⟩ := dp_pair hw
  unfold t_ties_on
  wtm_at "s"
  refine ⟨sz (by simp), fun fo nfo => ?_⟩
  have s1 := same_new (o := .lst []) nfo
  have e1 : upd H fo (.lst []) fo = some (.lst (List.map V.int [])) := upd_same
  generalize upd H fo (.lst []) = H1 at s1 e1 ⊢
  wtm_at "s"
  refine k_eqS ?_
  have loop : ∀ (nx : L2.St → Hp → Prop) (bk ct : L2.St → Hp → Prop), (match N with | .line _ => False | _ => True) → ∀ (W : Nat → L2.St → Hp → Prop), True := fun _ _ _ _ _ => trivial
  cases N with
  | line n =>
    obtain rfl := dp_int hy
    rw [show Net.kind (.line n) = Str.ofString "line" from rfl, s_same]
    obtain ⟨o1, o2⟩ := ok
    have w4' : a < n := w4
    have w5' : b < n := w5
    wtm_at "s"
    have hmn : (if b < a then b else a) = min a b := by split <;> omega
    have hmx : (if b > a then b else a) = max a b := by split <;> omega
    rw [hmn, hmx]
    refine ⟨.of_le (by omega) (by omega) (by omega) (by omega), fun l nl => ?_⟩
    refine q l ((List.range (max a b - min a b).toNat).map fun i => min a b + (i : Nat)) _ (s1.free nl) (s1.trans (same_new nl)) (by rw [upd_same, rg_ints]) ⟨?_, fun t => ?_, ?_⟩
    · exact List.pairwise_map.mpr (List.pairwise_lt_range.imp fun h => by omega)
    · show _ ↔ min a b ≤ t ∧ t < max a b
      rw [List.mem_map]
      constructor
      · rintro ⟨i, hi, rfl⟩
        have := List.mem_range.mp hi
        omega
      · intro h
        exact ⟨(t - min a b).toNat, List.mem_range.mpr (by omega), by omega⟩
    · show ((List.map _ _).length : Int) = max a b - min a b
      rw [List.length_map, List.length_range]
      omega
  | ring n =>
    obtain rfl := dp_int hy
    rw [show Net.kind (.ring n) = Str.ofString "ring" from rfl] at hs ⊢
    rw [s_rl]
    obtain ⟨o1, o2⟩ := ok
    have w4' : a < n := w4
    have w5' : b < n := w5
    have u0 := up_nonneg w2 w4' w3 w5'
    wtm_at "s"
    refine ⟨fun m σ' H' => ∃ a' fs, σ' = [some (.ref c), some (.ref p), some (.int a'), some (.int b), some (.ref fo)] ∧ Same H H' ∧ H' fo = some (.lst (List.map V.int fs)) ∧ 0 ≤ a' ∧ a' < n ∧ fs.Nodup ∧ (m : Int) = up n a' b ∧ (fs.length : Int) + m = up n a b ∧
      (∀ t, OnTie (.ring n) a b t ↔ t ∈ fs ∨ OnTie (.ring n) a' b t) ∧ (∀ t, t ∈ fs → ¬ OnTie (.ring n) a' b t),
      ⟨(up n a b).toNat, a, [], rfl, s1, e1, w2, w4', List.nodup_nil, by omega, by simp; omega, fun t => by simp, fun t z => by cases z⟩, ?_⟩
    rintro m σ' H' ⟨a', fs, rfl, sm, hf, a0, a1, nd, hm, hfl, ht, hn⟩
    wtm_at "s"
    refine k_itn (fun c1 => ?_) (fun c1 => ?_)
    · obtain ⟨f1, f2, f3, f4, f5⟩ := ring_far a0 a1 w3 w5' c1
      have uab : up n a b < n := by unfold up; split <;> omega
      refine ⟨fun σ' H' => ∃ fs', σ' = [some (.ref c), some (.ref p), some (.int ((a' + 1) % n)), some (.int b), some (.ref fo)] ∧ Same H H' ∧ H' fo = some (.lst (List.map V.int fs')) ∧ fs'.Nodup ∧ (fs'.length : Int) + (m - 1 : Nat) = up n a b ∧
        (∀ t, OnTie (.ring n) a b t ↔ t ∈ fs' ∨ OnTie (.ring n) ((a' + 1) % n) b t) ∧ (∀ t, t ∈ fs' → ¬ OnTie (.ring n) ((a' + 1) % n) b t), fun σ' H' ⟨fs', e, g1, g2, g3, g4, g5, g6⟩ => ⟨m - 1, by omega, _, fs', e, g1, g2, f2, f3, g3, by omega, g4, g5, g6⟩, ?_⟩
      have hs' : SqT K H' c [.str (Str.ofString "ring"), .int n] := same_seqT sm hs
      wtm_at "s"
      refine k_eqS ?_
      rw [s_same]
      wtm_at "s"
      refine k_tyL (sl hf) ?_
      wtm_at "s"
      refine k_append hf (by rw [List.length_map]; omega) ?_
      have hs2 : SqT K (upd H' fo (.lst (List.map V.int fs ++ [.int a']))) c [.str (Str.ofString "ring"), .int n] := same_seqT (same_mut sm nfo) hs
      wtm_at "s"
      refine ⟨fs ++ [a'], rfl, same_mut sm nfo, by rw [upd_same, List.map_append]; rfl, ?_, ?_, fun t => ?_, fun t z => ?_⟩
      · refine List.nodup_append.mpr ⟨nd, by simp, fun x hx y hy e => ?_⟩
        have : y = a' := by simpa using hy
        subst this; subst e
        exact hn x hx ⟨a0, a1, by rw [up_self]; exact f4⟩
      · rw [List.length_append]; show ((fs.length + 1 : Nat) : Int) + _ = _; omega
      · rw [ht t, List.mem_append]
        show t ∈ fs ∨ (0 ≤ t ∧ t < n ∧ up n a' t < up n a' b) ↔ (t ∈ fs ∨ t ∈ [a']) ∨ (0 ≤ t ∧ t < n ∧ _)
        by_cases r : 0 ≤ t ∧ t < n
        · have st := (ring_step a0 a1 w3 w5' c1 r.1 r.2).1
          simp only [r.1, r.2, true_and, List.mem_singleton, st, or_assoc]
        · have : t ≠ a' := fun e => r (by omega)
          constructor
          · rintro (h | h)
            · exact .inl (.inl h)
            · exact absurd ⟨h.1, h.2.1⟩ r
          · rintro ((h | h) | h)
            · exact .inl h
            · exact absurd (by simpa using h) this
            · exact absurd ⟨h.1, h.2.1⟩ r
      · rcases List.mem_append.mp z with z | z
        · intro o
          obtain ⟨o1, o2, o3⟩ := o
          exact hn t z ⟨o1, o2, (ring_step a0 a1 w3 w5' c1 o1 o2).1.mpr (.inr o3)⟩
        · have e : t = a' := by simpa using z
          intro o
          obtain ⟨o1, o2, o3⟩ := o
          exact (ring_step a0 a1 w3 w5' c1 o1 o2).2 e o3
    · subst c1
      rw [up_self] at hm
      wtm_at "s"
      refine k_sortedI (sl hf) (fun ns l pm srt nl => ?_)
      refine q l ns _ (sm.free nl) (sm.trans (same_new nl)) upd_same ⟨srt_of nd pm srt, fun t => ?_, ?_⟩
      · rw [pm.mem_iff, ht t]
        constructor
        · exact .inl
        · rintro (h | h)
          · exact h
          · obtain ⟨_, _, h⟩ := h
            rw [up_self] at h
            have := up_nonneg a0 a1 (b := t) (by assumption) (by assumption)
            omega
      · show (ns.length : Int) = up n a a'
        rw [pm.length_eq]; omega
  | tree ps =>
    obtain ⟨d, rfl, hdl⟩ := dp_ints hy
    rw [show Net.kind (.tree ps) = Str.ofString "tree" from rfl] at hs ⊢
    rw [s_tl]
    have w4' : a < ps.length + 1 := w4
    have w5' : b < ps.length + 1 := w5
    have l60 := ok.2.1
    wtm_at "s"
    refine ⟨fun m σ' H' => ∃ a' b' fs, σ' = [some (.ref c), some (.ref p), some (.int a'), some (.int b'), some (.ref fo)] ∧ Same H H' ∧ H' fo = some (.lst (List.map V.int fs)) ∧ 0 ≤ a' ∧ a' < ps.length + 1 ∧ 0 ≤ b' ∧ b' < ps.length + 1 ∧ fs.Nodup ∧ (m : Int) = a' + b' ∧ (fs.length : Int) + m ≤ a + b ∧
      (∀ t, OnTie (.tree ps) a b t ↔ t ∈ fs ∨ OnTie (.tree ps) a' b' t) ∧ (∀ t, t ∈ fs → ¬ OnTie (.tree ps) a' b' t),
      ⟨(a + b).toNat, a, b, [], rfl, s1, e1, w2, w4', w3, w5', List.nodup_nil, by omega, by simp; omega, fun t => by simp, fun t z => by cases z⟩, ?_⟩
    rintro m σ' H' ⟨a', b', fs, rfl, sm, hf, a0, a1, b0, b1, nd, hm, hfl, ht, hn⟩
    wtm_at "s"
    refine k_itn (fun c1 => ?_) (fun c1 => ?_)
    · refine ⟨fun σ' H' => ∃ m' a2 b2 fs', m' < m ∧ σ' = [some (.ref c), some (.ref p), some (.int a2), some (.int b2), some (.ref fo)] ∧ Same H H' ∧ H' fo = some (.lst (List.map V.int fs')) ∧ 0 ≤ a2 ∧ a2 < ps.length + 1 ∧ 0 ≤ b2 ∧ b2 < ps.length + 1 ∧ fs'.Nodup ∧ (m' : Int) = a2 + b2 ∧ (fs'.length : Int) + m' ≤ a + b ∧
        (∀ t, OnTie (.tree ps) a b t ↔ t ∈ fs' ∨ OnTie (.tree ps) a2 b2 t) ∧ (∀ t, t ∈ fs' → ¬ OnTie (.tree ps) a2 b2 t), fun σ' H' ⟨m', a2, b2, fs', l, r⟩ => ⟨m', l, a2, b2, fs', r⟩, ?_⟩
      have hs' : SqT K H' c [.str (Str.ofString "tree"), .ref d] := same_seqT sm hs
      wtm_at "s"
      refine k_eqS ?_
      rw [s_tr]
      wtm_at "s"
      refine k_it (fun c2 => ?_) (fun c2 => ?_)
      · have hpa := ok.2.2 (a' - 1).toNat (by omega)
        wtm_at "s"
        refine k_tyL (sl hf) ?_
        wtm_at "s"
        refine k_append hf (by rw [List.length_map]; omega) ?_
        have sm2 : Same H (upd H' fo (.lst (List.map V.int fs ++ [.int (a' - 1)]))) := same_mut sm nfo
        have hs2 : SqT K (upd H' fo (.lst (List.map V.int fs ++ [.int (a' - 1)]))) c [.str (Str.ofString "tree"), .ref d] := same_seqT sm2 hs
        wtm_at "s"
        refine k_ixI (sm2.seq hdl) (by omega) (by omega) ?_
        wtm_at "s"
        refine ⟨(ps.getD (a' - 1).toNat 0 + b').toNat, _, _, fs ++ [a' - 1], by omega, rfl, sm2, by rw [upd_same, List.map_append]; rfl, by omega, by omega, b0, b1, ?_, by omega, ?_, fun t => ?_, fun t z => ?_⟩
        · refine List.nodup_append.mpr ⟨nd, by simp, fun x hx y hy e => ?_⟩
          have : y = a' - 1 := by simpa using hy
          subst this; subst e
          exact hn _ hx ⟨by omega, by omega, (tree_step ok a0 a1 b0 c2 (by omega)).1.mpr (.inl rfl)⟩
        · rw [List.length_append]; show ((fs.length + 1 : Nat) : Int) + _ ≤ _; omega
        · rw [ht t, List.mem_append]
          show t ∈ fs ∨ (0 ≤ t ∧ t < ps.length ∧ _) ↔ (t ∈ fs ∨ t ∈ [a' - 1]) ∨ (0 ≤ t ∧ t < ps.length ∧ _)
          by_cases r : 0 ≤ t ∧ t < ps.length
          · have st := (tree_step ok a0 a1 b0 c2 r.1).1
            simp only [r.1, r.2, true_and, List.mem_singleton, st, or_assoc]
          · have : t ≠ a' - 1 := fun e => r (by omega)
            constructor
            · rintro (h | h)
              · exact .inl (.inl h)
              · exact absurd ⟨h.1, h.2.1⟩ r
            · rintro ((h | h) | h)
              · exact .inl h
              · exact absurd (by simpa using h) this
              · exact absurd ⟨h.1, h.2.1⟩ r
        · rcases List.mem_append.mp z with z | z
          · rintro ⟨o1, o2, o3⟩
            exact hn t z ⟨o1, o2, (tree_step ok a0 a1 b0 c2 o1).1.mpr (.inr o3)⟩
          · have e : t = a' - 1 := by simpa using z
            rintro ⟨o1, o2, o3⟩
            exact (tree_step ok a0 a1 b0 c2 o1).2 e o3
      · have c3 : a' < b' := by omega
        have hpb := ok.2.2 (b' - 1).toNat (by omega)
        have sym : ∀ u v t, OnTie (.tree ps) u v t ↔ OnTie (.tree ps) v u t := fun u v t => by
          show (_ ∧ _ ∧ _ ≠ _) ↔ (_ ∧ _ ∧ _ ≠ _)
          constructor
          · rintro ⟨x1, x2, x3⟩; exact ⟨x1, x2, x3.symm⟩
          · rintro ⟨x1, x2, x3⟩; exact ⟨x1, x2, x3.symm⟩
        wtm_at "s"
        refine k_tyL (sl hf) ?_
        wtm_at "s"
        refine k_append hf (by rw [List.length_map]; omega) ?_
        have sm2 : Same H (upd H' fo (.lst (List.map V.int fs ++ [.int (b' - 1)]))) := same_mut sm nfo
        have hs2 : SqT K (upd H' fo (.lst (List.map V.int fs ++ [.int (b' - 1)]))) c [.str (Str.ofString "tree"), .ref d] := same_seqT sm2 hs
        wtm_at "s"
        refine k_ixI (sm2.seq hdl) (by omega) (by omega) ?_
        wtm_at "s"
        refine ⟨(a' + ps.getD (b' - 1).toNat 0).toNat, _, _, fs ++ [b' - 1], by omega, rfl, sm2, by rw [upd_same, List.map_append]; rfl, a0, a1, by omega, by omega, ?_, by omega, ?_, fun t => ?_, fun t z => ?_⟩
        · refine List.nodup_append.mpr ⟨nd, by simp, fun x hx y hy e => ?_⟩
          have : y = b' - 1 := by simpa using hy
          subst this; subst e
          exact hn _ hx ((sym _ _ _).mpr ⟨by omega, by omega, (tree_step ok b0 b1 a0 c3 (by omega)).1.mpr (.inl rfl)⟩)
        · rw [List.length_append]; show ((fs.length + 1 : Nat) : Int) + _ ≤ _; omega
        · rw [ht t, List.mem_append, sym a' b', sym a' (ps.getD (b' - 1).toNat 0)]
          show t ∈ fs ∨ (0 ≤ t ∧ t < ps.length ∧ _) ↔ (t ∈ fs ∨ t ∈ [b' - 1]) ∨ (0 ≤ t ∧ t < ps.length ∧ _)
          by_cases r : 0 ≤ t ∧ t < ps.length
          · have st := (tree_step ok b0 b1 a0 c3 r.1).1
            simp only [r.1, r.2, true_and, List.mem_singleton, st, or_assoc]
          · have : t ≠ b' - 1 := fun e => r (by omega)
            constructor
            · rintro (h | h)
              · exact .inl (.inl h)
              · exact absurd ⟨h.1, h.2.1⟩ r
            · rintro ((h | h) | h)
              · exact .inl h
              · exact absurd (by simpa using h) this
              · exact absurd ⟨h.1, h.2.1⟩ r
        · rw [sym]
          rcases List.mem_append.mp z with z | z
          · rintro ⟨o1, o2, o3⟩
            exact hn t z ((sym _ _ _).mpr ⟨o1, o2, (tree_step ok b0 b1 a0 c3 o1).1.mpr (.inr o3)⟩)
          · have e : t = b' - 1 := by simpa using z
            rintro ⟨o1, o2, o3⟩
            exact (tree_step ok b0 b1 a0 c3 o1).2 e o3
    · subst c1
      wtm_at "s"
      refine k_sortedI (sl hf) (fun ns l pm srt nl => ?_)
      refine q l ns _ (sm.free nl) (sm.trans (same_new nl)) upd_same ⟨srt_of nd pm srt, fun t => ?_, ?_⟩
      · rw [pm.mem_iff, ht t]
        constructor
        · exact .inl
        · rintro (h | h)
          · exact h
          · exact absurd rfl h.2.2
      · show ns.length < 120
        rw [pm.length_eq]; omega
abbrev sp_ties_on (K : PySem.W.Frag) : Sp := fun vs H Q E => ∃ v0 v1, vs = [v0, v1] ∧ pr_ties_on K v0 v1 H Q E
theorem ok_ties_on (T : Txt K mg A) : FnOk P w K mg base CX0 1 A.a_ties_on A.d_ties_on ["net", "way"] (sp_ties_on K) := by
  refine T.F_ties_on.ok sc_ties_on (fun vs H Q E h => by obtain ⟨v0, v1, rfl, _⟩ := h; rfl) (fun cdv A0 outer s H vs Q E hr h => ?_)
  obtain ⟨v0, v1, rfl, h⟩ := h
  exact ⟨t_ties_on K, (pss_cons (ps_asg (pv 1) (pg_tup (by rfl) (pgs_cons (pg_name (i := 2) sc_ties_on.nd rfl (Or.inl rfl)) (pgs_cons (pg_name (i := 3) sc_ties_on.nd rfl (Or.inl rfl)) pgs_nil))))
      (pss_cons (ps_set (i := 4) sc_ties_on.nd rfl (Or.inl rfl) (pe_lst pa_nil))
      (pss_cons (ps_if (pt_cmpR op_eq (pe_ix ix_tup (pv 0) pe_int (fun _ _ => rfl)) pe_str (nomark _)) (pss_one (ps_ret (pe_listRg (by rfl) (by rfl) T.z_list (prg_2 (by rfl) T.z_range (pe_callB (q_min2 (by rfl)) (by rfl) T.z_min (by decide +kernel) (pa_cons (pv 2) (pa_cons (pv 3) pa_nil))) (pe_callB (q_max2 (by rfl)) (by rfl) T.z_max (by decide +kernel) (pa_cons (pv 2) (pa_cons (pv 3) pa_nil))))))) pss_nil)
      (pss_cons (ps_while PassesOwn.never (pt_cmpR op_ne (pv 2) (pv 3) (nomark _))
      (pss_one (ps_if (pt_cmpR op_eq (pe_ix ix_tup (pv 0) pe_int (fun _ _ => rfl)) pe_str (nomark _)) (pss_cons (ps_expr (pe_bm PySem.F.plainAttrs_list PySem.F.slot_list_append PySem.F.type_list_append mt_append (pv 4) (pa_cons (pv 2) pa_nil)))
      (pss_one (ps_set (i := 2) sc_ties_on.nd rfl (Or.inl rfl) (pe_op op_mod (pe_op op_add (pv 2) pe_int) (pe_ix ix_tup (pv 0) pe_int (fun _ _ => rfl)))))) (pss_one (ps_if (pt_cmpR op_gt (pv 2) (pv 3) (nomark _)) (pss_cons (ps_expr (pe_bm PySem.F.plainAttrs_list PySem.F.slot_list_append PySem.F.type_list_append mt_append (pv 4) (pa_cons (pe_op op_sub (pv 2) pe_int) pa_nil)))
      (pss_one (ps_set (i := 2) sc_ties_on.nd rfl (Or.inl rfl) (pe_ix ix_list (pe_ix ix_tup (pv 0) pe_int (fun _ _ => rfl)) (pe_op op_sub (pv 2) pe_int) (fun _ _ => rfl))))) (pss_cons (ps_expr (pe_bm PySem.F.plainAttrs_list PySem.F.slot_list_append PySem.F.type_list_append mt_append (pv 4) (pa_cons (pe_op op_sub (pv 3) pe_int) pa_nil)))
      (pss_one (ps_set (i := 3) sc_ties_on.nd rfl (Or.inl rfl) (pe_ix ix_list (pe_ix ix_tup (pv 0) pe_int (fun _ _ => rfl)) (pe_op op_sub (pv 3) pe_int) (fun _ _ => rfl))))))))))
      (pss_one (ps_ret (pe_callB cr_sortedI (by rfl) T.z_sorted (by decide +kernel) (pa_cons (pv 4) pa_nil)))))))), pure_ties_on h⟩


def pr_must_be_ways (K : PySem.W.Frag) (v0 v1 : V) (H : Hp) (Q : VK) (_ : XK) : Prop := ∃ (N : Net) (ws : List (Int × Int)), Dp K H v0 N.d ∧ Dp K H v1 (dPairs ws) ∧ ws.length ≤ 10000 ∧ (∀ w ∈ ws, isWay N w.1 w.2) ∧ Q .non H
def t_must_be_ways (K : PySem.W.Frag) : TS :=
  (tFor (iRng1 (tCons (tCB (rLenX K) (tCons (tVar 1) tNil)) tNil)) (gName 2)
      (tIfS (tNot (tB (tCall (sp_is_way K) [] E0 (tCons (tVar 0) (tCons (tOp (rIxL K) (tVar 1) (tVar 2)) tNil))))) tNever tNext))
theorem pure_must_be_ways {v0 v1 : V} {H : Hp} {Q : VK} {E : XK} (h : pr_must_be_ways K v0 v1 H Q E) : t_must_be_ways K ⟨fun _ H' => Q .non H', Q, fun _ _ => False, fun _ _ => False⟩ [some v0, some v1, none] H := by
  obtain ⟨N, ws, hd, hw, hz, hok, q⟩ := h
  obtain ⟨b, xs, rfl, hb, hxs⟩ := dp_list hw
  have hl := dpa_len hxs
  rw [List.length_map] at hl
  unfold t_must_be_ways
  wtm_at "s"
  rw [hl]
  refine forR (fun i σ' H' => H' = H ∧ ∃ k, σ' = [some v0, some (.ref b), k]) ⟨rfl, none, rfl⟩ ?_ (fun σ' H' ⟨e, _⟩ => e ▸ q)
  rintro i σ' H' hi ⟨rfl, k, rfl⟩
  have hi' : i < xs.length := by omega
  obtain ⟨x, hx⟩ : ∃ x, xs[i]? = some x := ⟨xs[i], List.getElem?_eq_getElem hi'⟩
  obtain ⟨d, hd1, hd2⟩ := dpa_get hxs hx
  rw [List.getElem?_map] at hd1
  obtain ⟨w, hw1, rfl⟩ := Option.map_eq_some_iff.mp hd1
  have wok := hok w (List.mem_of_getElem? hw1)
  wtm_at "s"
  refine k_ixL hb (by rw [Int.zero_add]; exact atI_nat hx) ?_
  wtm_at "s"
  refine ⟨_, _, rfl, N, w.1, w.2, hd, hd2, ?_⟩
  rw [decide_eq_true wok]
  wtm_at "s"
  exact ⟨rfl, _, rfl⟩
abbrev sp_must_be_ways (K : PySem.W.Frag) : Sp := fun vs H Q E => ∃ v0 v1, vs = [v0, v1] ∧ pr_must_be_ways K v0 v1 H Q E
theorem ok_must_be_ways (T : Txt K mg A) : FnOk P w K mg base CX0 3 A.a_must_be_ways A.d_must_be_ways ["net", "ways"] (sp_must_be_ways K) := by
  refine T.F_must_be_ways.ok sc_must_be_ways (fun vs H Q E h => by obtain ⟨v0, v1, rfl, _⟩ := h; rfl) (fun cdv A0 outer s H vs Q E hr h => ?_)
  obtain ⟨v0, v1, rfl, h⟩ := h
  exact ⟨t_must_be_ways K, (pss_one (ps_for PassesOwn.never rfl (pi_range1 (by rfl) T.z_range (pa_cons (pe_callB q_len (by rfl) T.z_len (by decide +kernel) (pa_cons (pv 1) pa_nil)) pa_nil)) (pg_name (i := 2) sc_must_be_ways.nd rfl (Or.inl rfl))
      (pss_one (ps_if (pt_not (pt_val (pe_call (ok_is_way T) (hr.mono (by decide)) (by rfl) T.g_is_way T.F_is_way.kp T.b_is_way .nil pass0 (pa_cons (pv 0) (pa_cons (pe_ix ix_list (pv 1) (pv 2) (fun _ _ => rfl)) pa_nil))))) (pss_one ps_never) pss_nil)))), pure_must_be_ways h⟩
def pr_look_ways (K : PySem.W.Frag) (v0 v1 : V) (H : Hp) (Q : VK) (_ : XK) : Prop := ∃ (N : Net) (ws : List (Int × Int)), Dp K H v0 N.d ∧ N.ok ∧ Dp K H v1 (dPairs ws) ∧ ws.length ≤ 10000 ∧ (∀ w ∈ ws, isWay N w.1 w.2) ∧ Q .non H
def t_look_ways (K : PySem.W.Frag) : TS :=
  (tSeq (tDrop (tCall (sp_look_net K) [] E0 (tCons (tVar 0) tNil)))
    (tDrop (tCall (sp_must_be_ways K) [] E0 (tCons (tVar 0) (tCons (tVar 1) tNil)))))
theorem pure_look_ways {v0 v1 : V} {H : Hp} {Q : VK} {E : XK} (h : pr_look_ways K v0 v1 H Q E) : t_look_ways K ⟨fun _ H' => Q .non H', Q, fun _ _ => False, fun _ _ => False⟩ [some v0, some v1] H := by
  obtain ⟨N, ws, hd, ok, hw, hz, hok, q⟩ := h
  unfold t_look_ways
  wtm_at "s"
  refine ⟨_, rfl, N, hd, ok, ?_⟩
  wtm_at "s"
  exact ⟨_, _, rfl, N, ws, hd, hw, hz, hok, q⟩
abbrev sp_look_ways (K : PySem.W.Frag) : Sp := fun vs H Q E => ∃ v0 v1, vs = [v0, v1] ∧ pr_look_ways K v0 v1 H Q E
theorem ok_look_ways (T : Txt K mg A) : FnOk P w K mg base CX0 4 A.a_look_ways A.d_look_ways ["net", "ways"] (sp_look_ways K) := by
  refine T.F_look_ways.ok sc_look_ways (fun vs H Q E h => by obtain ⟨v0, v1, rfl, _⟩ := h; rfl) (fun cdv A0 outer s H vs Q E hr h => ?_)
  obtain ⟨v0, v1, rfl, h⟩ := h
  exact ⟨t_look_ways K, (pss_cons (ps_expr (pe_call (ok_look_net T) (hr.mono (by decide)) (by rfl) T.g_look_net T.F_look_net.kp T.b_look_net .nil pass0 (pa_cons (pv 0) pa_nil)))
      (pss_one (ps_expr (pe_call (ok_must_be_ways T) (hr.mono (by decide)) (by rfl) T.g_must_be_ways T.F_must_be_ways.kp T.b_must_be_ways .nil pass0 (pa_cons (pv 0) (pa_cons (pv 1) pa_nil)))))), pure_look_ways h⟩
def pr_look_ring (K : PySem.W.Frag) (v0 : V) (H : Hp) (Q : VK) (_ : XK) : Prop := ∃ n, Dp K H v0 (Net.ring n).d ∧ (Net.ring n).ok ∧ Q .non H
def t_look_ring (K : PySem.W.Frag) : TS :=
  (tDrop (tCall (sp_must_be_kind K) [] E0 (tCons (tVar 0) (tCons (tC (.str (Str.ofString "ring"))) tNil))))
theorem pure_look_ring {v0 : V} {H : Hp} {Q : VK} {E : XK} (h : pr_look_ring K v0 H Q E) : t_look_ring K ⟨fun _ H' => Q .non H', Q, fun _ _ => False, fun _ _ => False⟩ [some v0] H := by
  obtain ⟨n, hd, ok, q⟩ := h
  unfold t_look_ring
  wtm_at "s"
  exact ⟨_, _, rfl, .ring n, hd, ok, rfl, q⟩
abbrev sp_look_ring (K : PySem.W.Frag) : Sp := fun vs H Q E => ∃ v0, vs = [v0] ∧ pr_look_ring K v0 H Q E
theorem ok_look_ring (T : Txt K mg A) : FnOk P w K mg base CX0 4 A.a_look_ring A.d_look_ring ["net"] (sp_look_ring K) := by
  refine T.F_look_ring.ok sc_look_ring (fun vs H Q E h => by obtain ⟨v0, rfl, _⟩ := h; rfl) (fun cdv A0 outer s H vs Q E hr h => ?_)
  obtain ⟨v0, rfl, h⟩ := h
  exact ⟨t_look_ring K, (pss_one (ps_expr (pe_call (ok_must_be_kind T) (hr.mono (by decide)) (by rfl) T.g_must_be_kind T.F_must_be_kind.kp T.b_must_be_kind .nil pass0 (pa_cons (pv 0) (pa_cons pe_str pa_nil))))), pure_look_ring h⟩
instance (N : Net) (a b t : Int) : Decidable (OnTie N a b t) := by
  cases N <;> unfold OnTie <;> infer_instance
def Net.ties : Net → Nat
  | .line n => (n - 1).toNat
  | .ring n => n.toNat
  | .tree ps => ps.length
/-- how many of the ways lie on a tie -/
def cnt (N : Net) (ws : List (Int × Int)) (t : Int) : Nat := (ws.filter fun w => decide (OnTie N w.1 w.2 t)).length
def loadsOf (N : Net) (ws : List (Int × Int)) : List Int := (List.range N.ties).map fun t => (cnt N ws (t : Nat) : Int)
theorem on_range {N : Net} (ok : N.ok) {a b t : Int} (hw : isWay N a b) (h : OnTie N a b t) : 0 ≤ t ∧ t < N.ties := by
  cases N with
  | line n =>
    obtain ⟨h1, h2⟩ := h
    obtain ⟨w1, w2, w3, w4, w5⟩ := hw
    have w4' : a < n := w4
    have w5' : b < n := w5
    show 0 ≤ t ∧ t < ((n - 1).toNat : Int)
    omega
  | ring n =>
    obtain ⟨h1, h2, _⟩ := h
    have : 3 ≤ n := ok.1
    show 0 ≤ t ∧ t < (n.toNat : Int)
    omega
  | tree ps =>
    obtain ⟨h1, h2, _⟩ := h
    exact ⟨h1, h2⟩
theorem ties_le {N : Net} (ok : N.ok) : N.ties ≤ 60 ∧ 1 ≤ N.ties := by
  cases N with
  | line n => obtain ⟨h1, h2⟩ := ok; show (n - 1).toNat ≤ 60 ∧ 1 ≤ (n - 1).toNat; omega
  | ring n => obtain ⟨h1, h2⟩ := ok; show n.toNat ≤ 60 ∧ 1 ≤ n.toNat; omega
  | tree ps => obtain ⟨h1, h2, _⟩ := ok; show ps.length ≤ 60 ∧ 1 ≤ ps.length; omega
theorem cnt_take {N : Net} {ws : List (Int × Int)} {i : Nat} {w : Int × Int} (h : ws[i]? = some w) (t : Int) : cnt N (ws.take (i + 1)) t = cnt N (ws.take i) t + if OnTie N w.1 w.2 t then 1 else 0 := by
  unfold cnt
  rw [List.take_add_one, h, List.filter_append, List.length_append]
  by_cases c : OnTie N w.1 w.2 t <;> simp [c]


/-! ### types of data -/
def tyD : PyData → String
  | .none => "NoneType"
  | .bool _ => "bool"
  | .int _ => "int"
  | .str _ => "str"
  | .list _ => "list"
  | .tuple _ => "tuple"
  | .dict _ => "dict"
def wholeD : PyData → Bool
  | .int _ => true
  | _ => false
def isD (t : String) (d : PyData) : Bool := decide (tyD d = t)
theorem ty_tup {K : PySem.W.Frag} {H : Hp} {p : Addr} {xs : List V} (h : SqT K H p xs) : ∃ t, t = "tuple" ∧ TyX K H (.ref p) (.type t) := by
  rcases h with (h | ⟨o, h⟩) | ⟨o, its, n, h1, h2, h3⟩
  · exact ⟨_, rfl, .base (.tup h)⟩
  · exact ⟨_, rfl, .fTuple h⟩
  · exact ⟨_, rfl, .kTuple h1 h2⟩
section
variable {K : PySem.W.Frag} {H : Hp} {Q : VK} {v : V} {d : PyData}
theorem dp_ty (h : Dp K H v d) : TyX K H v (.type (tyD d)) := by
  cases h with
  | non => exact .base .non
  | bl b => exact .base (.bl b)
  | int i => exact .base (.int i)
  | str s => exact .base (.str s)
  | lst h _ => exact ty_list h
  | tup h _ => obtain ⟨t, rfl, ty⟩ := ty_tup h; exact ty
theorem dp_tyIn (h : Dp K H v d) : tyD d ∈ ["NoneType", "bool", "int", "str", "list", "tuple"] := by cases h <;> simp [tyD]
theorem kb_tuple : ∀ s ∈ ["NoneType", "bool", "int", "str", "list", "tuple"], kitB s "tuple" = some (decide (s = "tuple")) := by decide +kernel
theorem kb_str : ∀ s ∈ ["NoneType", "bool", "int", "str", "list", "tuple"], kitB s "str" = some (decide (s = "str")) := by decide +kernel
theorem kb_list : ∀ s ∈ ["NoneType", "bool", "int", "str", "list", "tuple"], kitB s "list" = some (decide (s = "list")) := by decide +kernel
theorem kb_bool : ∀ s ∈ ["NoneType", "bool", "int", "str", "list", "tuple"], kitB s "bool" = some (decide (s = "bool")) := by decide +kernel
theorem kb_dict : ∀ s ∈ ["NoneType", "bool", "int", "str", "list", "tuple"], kitB s "dict" = some false := by decide +kernel
theorem kb_int : ∀ s ∈ ["NoneType", "bool", "int", "str", "list", "tuple"], kitB s "int" = some (decide (s = "int") || decide (s = "bool")) := by decide +kernel
theorem k_isiTupD (h : Dp K H v d) (q : Q (.bl (isD "tuple" d)) H) : rIsi K [v, .ty "tuple"] H Q := k_isi (dp_ty h) (kb_tuple _ (dp_tyIn h)) q
theorem k_isiStrD (h : Dp K H v d) (q : Q (.bl (isD "str" d)) H) : rIsi K [v, .ty "str"] H Q := k_isi (dp_ty h) (kb_str _ (dp_tyIn h)) q
theorem k_isiListD (h : Dp K H v d) (q : Q (.bl (isD "list" d)) H) : rIsi K [v, .ty "list"] H Q := k_isi (dp_ty h) (kb_list _ (dp_tyIn h)) q
theorem k_isiDictD (h : Dp K H v d) (q : Q (.bl false) H) : rIsi K [v, .ty "dict"] H Q := k_isi (dp_ty h) (kb_dict _ (dp_tyIn h)) q
theorem k_isiBoolD (h : Dp K H v d) (q : Q (.bl (isD "bool" d)) H) : rIsi K [v, .ty "bool"] H Q := k_isi (dp_ty h) (kb_bool _ (dp_tyIn h)) q
theorem k_isiIntD (h : Dp K H v d) (q : Q (.bl (isD "int" d || isD "bool" d)) H) : rIsi K [v, .ty "int"] H Q := k_isi (dp_ty h) (kb_int _ (dp_tyIn h)) q
end
def pr_is_whole (K : PySem.W.Frag) (v0 : V) (H : Hp) (Q : VK) (_ : XK) : Prop := ∃ d : PyData, Dp K H v0 d ∧ Q (.bl (wholeD d)) H
def t_is_whole (K : PySem.W.Frag) : TS :=
  (tRet (tAndV (tCB (rIsi K) (tCons (tVar 0) (tCons (tC (.ty "int")) tNil))) (tNotV (tCB (rIsi K) (tCons (tVar 0) (tCons (tC (.ty "bool")) tNil))))))
theorem pure_is_whole {v0 : V} {H : Hp} {Q : VK} {E : XK} (h : pr_is_whole K v0 H Q E) : t_is_whole K ⟨fun _ H' => Q .non H', Q, fun _ _ => False, fun _ _ => False⟩ [some v0] H := by
  obtain ⟨d, hd, q⟩ := h
  unfold t_is_whole
  refine k_ret (k_andV ?_)
  refine k_cb (k_cons (k_var rfl (k_cons (k_c (k_nil ?_)))))
  refine k_isiIntD hd ?_
  refine ⟨_, rfl, ?_⟩
  have c : (isD "int" d || isD "bool" d) = true ∨ (isD "int" d || isD "bool" d) = false := by cases (isD "int" d || isD "bool" d) <;> simp
  rcases c with c | c
  · rw [c, if_pos rfl]
    refine k_notV ?_
    refine k_cb (k_cons (k_var rfl (k_cons (k_c (k_nil ?_)))))
    refine k_isiBoolD hd ⟨_, rfl, ?_⟩
    have e : (!isD "bool" d) = wholeD d := by cases d <;> first | rfl | (exact absurd c (by simp [isD, tyD]))
    rw [e]; exact q
  · rw [c, if_neg (by decide)]
    have e : wholeD d = false := by cases d <;> first | rfl | (exact absurd c (by simp [isD, tyD]))
    rw [e] at q; exact q
abbrev sp_is_whole (K : PySem.W.Frag) : Sp := fun vs H Q E => ∃ v0, vs = [v0] ∧ pr_is_whole K v0 H Q E
theorem ok_is_whole (T : Txt K mg A) : FnOk P w K mg base CX0 1 A.a_is_whole A.d_is_whole ["thing"] (sp_is_whole K) := by
  refine T.F_is_whole.ok sc_is_whole (fun vs H Q E h => by obtain ⟨v0, rfl, _⟩ := h; rfl) (fun cdv A0 outer s H vs Q E hr h => ?_)
  obtain ⟨v0, rfl, h⟩ := h
  exact ⟨t_is_whole K, (pss_one (ps_ret (pe_and (pe_callB q_isi (by rfl) T.z_isinstance (by decide +kernel) (pa_cons (pv 0) (pa_cons (pe_bltn (v := .ty "int") (by rfl) T.z_int (by decide +kernel) rfl) pa_nil))) (pe_one (pe_not (pe_callB q_isi (by rfl) T.z_isinstance (by decide +kernel) (pa_cons (pv 0) (pa_cons (pe_bltn (v := .ty "bool") (by rfl) T.z_bool (by decide +kernel) rfl) pa_nil)))))))), pure_is_whole h⟩
def turnW (w : Int × Int) (u : Int) : Int × Int := if u = 1 then (w.2, w.1) else w
def turnAll (ws : List (Int × Int)) (us : List Int) : List (Int × Int) := List.zipWith turnW ws us
def TurnOk (ws : List (Int × Int)) (us : List Int) : Prop := us.length = ws.length ∧ ∀ u ∈ us, 0 ≤ u ∧ u ≤ 1
def short (n : Int) (w : Int × Int) : Int := if n < 2 * up n w.1 w.2 then 1 else 0


/-- the numbers below n that P takes -/
def keepI (n : Nat) (P : Nat → Bool) : List Int := ((List.range n).filter P).map fun (i : Nat) => (i : Int)
theorem keepI_fm (n : Nat) (P : Nat → Bool) : (List.range n).filterMap (fun i => if P i = true then some (V.int (0 + (i : Nat))) else none) = List.map V.int (keepI n P) := by
  unfold keepI
  rw [List.map_map]
  induction (List.range n) with
  | nil => rfl
  | cons x r ih =>
    by_cases c : P x = true
    · rw [List.filterMap_cons, if_pos c, List.filter_cons, if_pos c]
      simp only [List.map_cons]
      rw [ih]
      simp
    · rw [List.filterMap_cons, if_neg c, List.filter_cons, if_neg c]
      exact ih
theorem keepI_srt (n : Nat) (P : Nat → Bool) : (keepI n P).Pairwise (· < ·) := by
  unfold keepI
  exact List.pairwise_map.mpr ((List.pairwise_lt_range.filter P).imp fun h => by omega)
theorem keepI_mem {n : Nat} {P : Nat → Bool} {t : Int} : t ∈ keepI n P ↔ 0 ≤ t ∧ t < n ∧ P t.toNat = true := by
  unfold keepI
  rw [List.mem_map]
  constructor
  · rintro ⟨i, hi, rfl⟩
    obtain ⟨h1, h2⟩ := List.mem_filter.mp hi
    have := List.mem_range.mp h1
    exact ⟨by omega, by omega, by rw [Int.toNat_natCast]; exact h2⟩
  · rintro ⟨h0, h1, h2⟩
    exact ⟨t.toNat, List.mem_filter.mpr ⟨List.mem_range.mpr (by omega), h2⟩, by omega⟩
theorem nodup_below : ∀ (n : Nat) (l : List Int), l.Nodup → (∀ x ∈ l, 0 ≤ x ∧ x < n) → l.length ≤ n
  | 0, l, _, h => by
    cases l with
    | nil => simp
    | cons x r => have := h x List.mem_cons_self; omega
  | n + 1, l, nd, h => by
    have e : l.length = l.countP (fun x => decide (x = (n : Int))) + l.countP (fun x => !decide (x = (n : Int))) := by
      have := List.length_eq_countP_add_countP (fun x : Int => decide (x = (n : Int))) (l := l)
      rw [this]
      congr 1
      exact List.countP_congr fun x _ => by simp
    have c1 : l.countP (fun x => decide (x = (n : Int))) ≤ 1 := by
      have := List.nodup_iff_count.mp nd (n : Int)
      rw [List.count_eq_countP] at this
      have e2 : l.countP (fun x => decide (x = (n : Int))) = l.countP (· == (n : Int)) := List.countP_congr fun x _ => by simp
      rw [e2]; exact this
    have c2 := nodup_below n (l.filter fun x => !decide (x = (n : Int))) (nd.filter _) (fun x hx => by
      obtain ⟨h1, h2⟩ := List.mem_filter.mp hx
      have := h x h1
      simp at h2
      omega)
    rw [← List.countP_eq_length_filter] at c2
    omega
theorem firstMet_nd (val : Nat → Int) : ∀ i, (PyProof.Rows.firstMet val i).Nodup ∧ ∀ x ∈ PyProof.Rows.firstMet val i, ∃ j, j < i ∧ x = val j
  | 0 => ⟨List.nodup_nil, fun x z => by cases z⟩
  | i + 1 => by
    obtain ⟨h1, h2⟩ := firstMet_nd val i
    rw [PyProof.Rows.firstMet_succ]
    unfold PyProof.Rows.step_dedup
    split
    · exact ⟨h1, fun x hx => by obtain ⟨j, hj, e⟩ := h2 x hx; exact ⟨j, by omega, e⟩⟩
    · rename_i c
      refine ⟨?_, fun x hx => ?_⟩
      · rw [List.nodup_append]
        refine ⟨h1, by simp, fun x hx y hy e => ?_⟩
        rw [List.mem_singleton.mp hy] at e
        refine c (List.any_eq_true.mpr ⟨x, hx, by simp [e]⟩)
      · rcases List.mem_append.mp hx with hx | hx
        · obtain ⟨j, hj, e⟩ := h2 x hx; exact ⟨j, by omega, e⟩
        · exact ⟨i, by omega, List.mem_singleton.mp hx⟩
theorem unl_below {hs : List Int} {n : Nat} (h : ∀ x ∈ hs, 0 ≤ x ∧ x < n) : unl hs ≤ n := by
  obtain ⟨h1, h2⟩ := firstMet_nd (fun i => hs.getD i 0) hs.length
  refine nodup_below n _ h1 fun x hx => ?_
  obtain ⟨j, hj, rfl⟩ := h2 x hx
  refine h _ ?_
  show hs.getD j 0 ∈ hs
  rw [List.getD_eq_getElem?_getD, List.getElem?_eq_getElem hj]
  exact List.getElem_mem hj
theorem ss_ext : ∀ {xs ys : List Int}, xs.Pairwise (· < ·) → ys.Pairwise (· < ·) → (∀ t, t ∈ xs ↔ t ∈ ys) → xs = ys
  | [], [], _, _, _ => rfl
  | [], y :: ys, _, _, h => by have := (h y).mpr List.mem_cons_self; cases this
  | x :: xs, [], _, _, h => by have := (h x).mp List.mem_cons_self; cases this
  | x :: xs, y :: ys, h1, h2, h => by
    obtain ⟨a1, a2⟩ := List.pairwise_cons.mp h1
    obtain ⟨b1, b2⟩ := List.pairwise_cons.mp h2
    have e : x = y := by
      rcases List.mem_cons.mp ((h x).mp List.mem_cons_self) with e | e
      · exact e
      · rcases List.mem_cons.mp ((h y).mpr List.mem_cons_self) with e' | e'
        · exact e'.symm
        · have := b1 _ e; have := a1 _ e'; omega
    subst e
    congr 1
    refine ss_ext a2 b2 fun t => ?_
    constructor
    · intro ht
      rcases List.mem_cons.mp ((h t).mp (List.mem_cons_of_mem _ ht)) with e | e
      · have := a1 _ ht; omega
      · exact e
    · intro ht
      rcases List.mem_cons.mp ((h t).mpr (List.mem_cons_of_mem _ ht)) with e | e
      · have := b1 _ ht; omega
      · exact e
/-! ### ways that meet -/
def tiesF (N : Net) (w : Int × Int) : List Int := keepI N.ties fun t => decide (OnTie N w.1 w.2 (t : Nat))
theorem tiesF_mem {N : Net} (ok : N.ok) {w : Int × Int} (hw : isWay N w.1 w.2) (t : Int) : t ∈ tiesF N w ↔ OnTie N w.1 w.2 t := by
  unfold tiesF
  rw [keepI_mem]
  constructor
  · rintro ⟨h1, h2, h3⟩
    have := of_decide_eq_true h3
    rwa [Int.toNat_of_nonneg h1] at this
  · intro h
    obtain ⟨h1, h2⟩ := on_range ok hw h
    exact ⟨h1, h2, decide_eq_true (by rw [Int.toNat_of_nonneg h1]; exact h)⟩
theorem tiesF_len (N : Net) (w : Int × Int) : (tiesF N w).length ≤ N.ties := by
  unfold tiesF keepI
  rw [List.length_map]
  have := List.length_filter_le (fun t : Nat => decide (OnTie N w.1 w.2 (t : Nat))) (List.range N.ties)
  rwa [List.length_range] at this
theorem tiesF_of {N : Net} (ok : N.ok) {w : Int × Int} (hw : isWay N w.1 w.2) {ns : List Int} (hs : ns.Pairwise (· < ·)) (hm : ∀ t, t ∈ ns ↔ OnTie N w.1 w.2 t) : ns = tiesF N w :=
  ss_ext hs (keepI_srt _ _) fun t => by rw [hm t, tiesF_mem ok hw t]
def commonB (xs ys : List Int) : Bool := xs.any fun t => decide (t ∈ ys)
theorem common_iff {xs ys : List Int} : commonB xs ys = true ↔ ∃ t, t ∈ xs ∧ t ∈ ys := by
  unfold commonB
  rw [List.any_eq_true]
  constructor
  · rintro ⟨t, h1, h2⟩; exact ⟨t, h1, of_decide_eq_true h2⟩
  · rintro ⟨t, h1, h2⟩; exact ⟨t, h1, decide_eq_true h2⟩
theorem common_comm (xs ys : List Int) : commonB xs ys = commonB ys xs := by
  rw [Bool.eq_iff_iff, common_iff, common_iff]
  constructor <;> rintro ⟨t, h1, h2⟩ <;> exact ⟨t, h2, h1⟩
def meetB (N : Net) (w v : Int × Int) : Bool := commonB (tiesF N w) (tiesF N v)
def meetRow (N : Net) (ws : List (Int × Int)) (i : Nat) : List Int := keepI ws.length fun k => decide (k ≠ i) && meetB N (ws.getD i (0, 0)) (ws.getD k (0, 0))
def meetF (N : Net) (ws : List (Int × Int)) : List (List Int) := (List.range ws.length).map (meetRow N ws)
/-- who meets whom -/
structure Adj (M : List (List Int)) : Prop where
  rng : ∀ (i : Nat), ∀ o ∈ M.getD i [], 0 ≤ o ∧ o < M.length ∧ o ≠ (i : Int)
  sym : ∀ (i j : Nat), i < M.length → j < M.length → ((j : Int) ∈ M.getD i [] ↔ (i : Int) ∈ M.getD j [])
  len : ∀ r ∈ M, r.length ≤ M.length
theorem meetF_len (N : Net) (ws : List (Int × Int)) : (meetF N ws).length = ws.length := by unfold meetF; rw [List.length_map, List.length_range]
theorem meetF_get {N : Net} {ws : List (Int × Int)} {i : Nat} (h : i < ws.length) : (meetF N ws).getD i [] = meetRow N ws i := by
  unfold meetF
  rw [List.getD_eq_getElem?_getD, List.getElem?_map, List.getElem?_range h]; rfl
theorem meetRow_mem {N : Net} {ws : List (Int × Int)} {i j : Nat} : (j : Int) ∈ meetRow N ws i ↔ j < ws.length ∧ j ≠ i ∧ meetB N (ws.getD i (0, 0)) (ws.getD j (0, 0)) = true := by
  unfold meetRow
  rw [keepI_mem]
  simp only [Int.toNat_natCast, Bool.and_eq_true, decide_eq_true_eq]
  constructor
  · rintro ⟨_, h1, h2, h3⟩; exact ⟨by omega, h2, h3⟩
  · rintro ⟨h1, h2, h3⟩; exact ⟨by omega, by omega, h2, h3⟩
theorem meetF_adj (N : Net) (ws : List (Int × Int)) : Adj (meetF N ws) := by
  refine ⟨fun i o ho => ?_, fun i j hi hj => ?_, fun r hr => ?_⟩
  · rw [meetF_len]
    by_cases c : i < ws.length
    · rw [meetF_get c] at ho
      have h0 : 0 ≤ o := (keepI_mem.mp ho).1
      obtain ⟨j, rfl⟩ : ∃ j : Nat, o = j := ⟨o.toNat, by omega⟩
      obtain ⟨h1, h2, _⟩ := meetRow_mem.mp ho
      exact ⟨h0, by omega, by omega⟩
    · rw [List.getD_eq_getElem?_getD, List.getElem?_eq_none (by rw [meetF_len]; omega)] at ho
      cases ho
  · rw [meetF_len] at hi hj
    rw [meetF_get hi, meetF_get hj, meetRow_mem, meetRow_mem]
    unfold meetB
    rw [common_comm]
    constructor
    · rintro ⟨_, h2, h3⟩; exact ⟨hi, fun z => h2 z.symm, h3⟩
    · rintro ⟨_, h2, h3⟩; exact ⟨hj, fun z => h2 z.symm, h3⟩
  · rw [meetF_len]
    obtain ⟨i, _, rfl⟩ := List.mem_map.mp hr
    unfold meetRow keepI
    rw [List.length_map]
    have := List.length_filter_le (fun k => decide (k ≠ i) && meetB N (ws.getD i (0, 0)) (ws.getD k (0, 0))) (List.range ws.length)
    rwa [List.length_range] at this
/-! ### dicts of whole numbers, as lists -/
def lookS (ss : List (Int × Int)) (k : Int) : Option Int := (ss.find? fun p => decide (p.1 = k)).map (·.2)
theorem look_add {ss : List (Int × Int)} {k u j : Int} (h : lookS ss k = none) : lookS (ss ++ [(k, u)]) j = if j = k then some u else lookS ss j := by
  unfold lookS at *
  rw [List.find?_append]
  by_cases c : j = k
  · subst c
    rw [if_pos rfl]
    have : ss.find? (fun p => decide (p.1 = j)) = none := by
      cases z : ss.find? (fun p => decide (p.1 = j)) with
      | none => rfl
      | some x => rw [z] at h; cases h
    rw [this]
    simp
  · rw [if_neg c]
    have : [(k, u)].find? (fun p => decide (p.1 = j)) = none := by
      simp; exact fun z => c z.symm
    rw [this]
    simp
theorem look_nil (k : Int) : lookS [] k = none := rfl
def dS (ss : List (Int × Int)) : List (Key × V) := ss.map fun p => (.inl p.1, .int p.2)
theorem dS_val {ss : List (Int × Int)} {k : Int} : valV (dS ss) (.inl k) = (lookS ss k).map V.int := by
  unfold valV dS lookS
  induction ss with
  | nil => rfl
  | cons p r ih =>
    rw [List.map_cons, List.find?_cons, List.find?_cons]
    by_cases c : p.1 = k
    · simp [c]
    · have c' : (decide (p.1 = k)) = false := decide_eq_false c
      simp only [c']
      have : decide ((Sum.inl p.1 : Key) = Sum.inl k) = false := decide_eq_false fun z => c (by cases z; rfl)
      simp only [this]
      exact ih
theorem dS_put {ss : List (Int × Int)} {k u : Int} (h : lookS ss k = none) : putK (dS ss) (.inl k) (.int u) = dS (ss ++ [(k, u)]) := by
  unfold putK
  have hn : (dS ss).any (fun kv => decide (kv.1 = Sum.inl k)) = false := by
    rw [List.any_eq_false]
    intro x hx z
    unfold dS at hx
    obtain ⟨p, hp, rfl⟩ := List.mem_map.mp hx
    have z' : (Sum.inl p.1 : Key) = Sum.inl k := of_decide_eq_true z
    have e : p.1 = k := by cases z'; rfl
    unfold lookS at h
    cases y : ss.find? (fun p => decide (p.1 = k)) with
    | some a => rw [y] at h; cases h
    | none => exact absurd (decide_eq_true e) (by simpa using List.find?_eq_none.mp y p hp)
  rw [hn]
  unfold dS
  rw [List.map_append]
  rfl
theorem dS_len (ss : List (Int × Int)) : (dS ss).length = ss.length := by unfold dS; simp
theorem countP_lt {α : Type} {p q : α → Bool} : ∀ {l : List α}, (∀ x ∈ l, p x = true → q x = true) → (∃ x ∈ l, q x = true ∧ p x = false) → l.countP p < l.countP q
  | [], _, ⟨x, hx, _⟩ => by cases hx
  | a :: r, h, ⟨x, hx, h1, h2⟩ => by
    rw [List.countP_cons, List.countP_cons]
    have mono : r.countP p ≤ r.countP q := List.countP_mono_left fun y hy => h y (List.mem_cons_of_mem _ hy)
    rcases List.mem_cons.mp hx with rfl | hx
    · rw [h1, h2]; simp; omega
    · have ih := countP_lt (l := r) (fun y hy => h y (List.mem_cons_of_mem _ hy)) ⟨x, hx, h1, h2⟩
      have ha := h a List.mem_cons_self
      cases hp : p a with
      | false => simp; split <;> omega
      | true => rw [ha hp]; simp; omega
/-- numbers below n that are no keys -/
def frN (n : Nat) (ss : List (Int × Int)) : Nat := (List.range n).countP fun i : Nat => (lookS ss (i : Int)).isNone
theorem frN_lt {n : Nat} {ss : List (Int × Int)} {k u : Int} (k0 : 0 ≤ k) (k1 : k < n) (h : lookS ss k = none) : frN n (ss ++ [(k, u)]) < frN n ss := by
  refine countP_lt (fun i _ hi => ?_) ⟨k.toNat, List.mem_range.mpr (by omega), ?_, ?_⟩
  · rw [look_add h] at hi
    split at hi
    · cases hi
    · exact hi
  · rw [Int.toNat_of_nonneg k0, h]; rfl
  · rw [look_add h, Int.toNat_of_nonneg k0, if_pos rfl]; rfl
theorem frN_nil (n : Nat) : frN n [] = n := by
  show (List.range n).countP (fun _ => true) = n
  rw [List.countP_true, List.length_range]
def intD : PyData → Int
  | .int i => i
  | _ => 0
theorem whole_int {d : PyData} (h : wholeD d = true) : d = .int (intD d) := by
  cases d <;> first | rfl | cases h
/-! ### hues of ways that meet; cases -/
def Proper (M : List (List Int)) (h : Int) (f : Nat → Int) : Prop := ∀ i : Nat, i < M.length → (0 ≤ f i ∧ f i < h) ∧ ∀ o ∈ M.getD i [], f o.toNat ≠ f i
def swp (a b x : Int) : Int := if x = a then b else if x = b then a else x
theorem swp_inj {a b x y : Int} (h : swp a b x = swp a b y) : x = y := by
  unfold swp at h
  repeat' split at h
  all_goals omega
theorem Proper.swap {M : List (List Int)} {h a b : Int} {f : Nat → Int} (p : Proper M h f) (ha : 0 ≤ a ∧ a < h) (hb : 0 ≤ b ∧ b < h) : Proper M h fun i => swp a b (f i) := fun i hi => by
  obtain ⟨h1, h2⟩ := p i hi
  refine ⟨?_, fun o ho z => h2 o ho (swp_inj z)⟩
  show 0 ≤ swp a b (f i) ∧ swp a b (f i) < h
  unfold swp
  repeat' split
  all_goals omega
theorem nodup_lenI : ∀ {l m : List Int}, l.Nodup → (∀ x ∈ l, x ∈ m) → l.length ≤ m.length
  | [], m, _, _ => by simp
  | a :: l, m, nd, h => by
    have nd' := List.nodup_cons.mp nd
    have := nodup_lenI (l := l) (m := m.erase a) nd'.2 (fun x hx => (List.mem_erase_of_ne (fun e => nd'.1 (by rw [← e]; exact hx))).mpr (h x (List.mem_cons_of_mem _ hx)))
    rw [List.length_erase_of_mem (h a List.mem_cons_self)] at this
    have := List.length_pos_of_mem (h a List.mem_cons_self)
    simp only [List.length_cons]
    omega
theorem met_allI (val : Nat → Int) : ∀ i j, j < i → val j ∈ PyProof.Rows.firstMet val i
  | 0, j, h => by omega
  | i + 1, j, h => by
    rw [PyProof.Rows.firstMet_succ]
    unfold PyProof.Rows.step_dedup
    by_cases c : j = i
    · subst c
      split
      · rename_i a
        obtain ⟨x, hx, e⟩ := List.any_eq_true.mp a
        have : x = val j := by simpa using e
        rw [← this]; exact hx
      · simp
    · have := met_allI val i j (by omega)
      split
      · exact this
      · exact List.mem_append_left _ this
/-- just the hues below m are used -/
def Can (m : Nat) (hs : List Int) : Prop := (∀ x ∈ hs, 0 ≤ x ∧ x < m) ∧ ∀ c : Nat, c < m → (c : Int) ∈ hs
theorem Can.unl {m : Nat} {hs : List Int} (h : Can m hs) : unl hs = m := by
  have h1 := unl_below h.1
  have h2 : ((List.range m).map fun c : Nat => (c : Int)).length ≤ Cm.unl hs := by
    unfold Cm.unl
    refine nodup_lenI (List.pairwise_map.mpr (List.pairwise_lt_range.imp fun {a b} hab => by omega)) fun x hx => ?_
    obtain ⟨c, hc, rfl⟩ := List.mem_map.mp hx
    obtain ⟨j, hj, e⟩ := List.mem_iff_getElem.mp (h.2 c (List.mem_range.mp hc))
    have := met_allI (fun i => hs.getD i 0) hs.length j hj
    simp only [List.getD_eq_getElem?_getD, List.getElem?_eq_getElem hj, Option.getD_some, e] at this
    exact this
  rw [List.length_map, List.length_range] at h2
  omega
theorem Can.nil : Can 0 [] := ⟨(fun x z => by cases z), fun c z => by omega⟩
theorem Can.app {m : Nat} {hs : List Int} {c : Nat} (h : Can m hs) (hc : c ≤ m) : Can (max m (c + 1)) (hs ++ [(c : Int)]) := by
  refine ⟨fun x hx => ?_, fun e he => ?_⟩
  · rcases List.mem_append.mp hx with hx | hx
    · have := h.1 x hx; omega
    · rw [List.mem_singleton.mp hx]; omega
  · by_cases z : e = c
    · rw [z]; exact List.mem_append_right _ (List.mem_singleton.mpr rfl)
    · exact List.mem_append_left _ (h.2 e (by omega))
/-- a proper giving may be taken to give the next way one of the options -/
theorem pick_opt {M : List (List Int)} {h : Int} {f : Nat → Int} {m k : Nat} (p : Proper M h f) (hk : k < M.length) : ∃ g, Proper M h g ∧ (∀ i, 0 ≤ f i → f i < m → g i = f i) ∧ 0 ≤ g k ∧ g k ≤ m ∧ g k < h := by
  obtain ⟨⟨h1, h2⟩, _⟩ := p k hk
  by_cases c : f k ≤ m
  · exact ⟨f, p, fun _ _ _ => rfl, h1, c, h2⟩
  · have e : swp (f k) (m : Int) (f k) = m := by unfold swp; rw [if_pos rfl]
    refine ⟨fun i => swp (f k) m (f i), p.swap ⟨h1, h2⟩ ⟨by omega, by omega⟩, fun i i0 i1 => ?_, ?_, ?_, ?_⟩
    · show swp (f k) m (f i) = f i
      unfold swp
      rw [if_neg (by omega), if_neg (by omega)]
    · show 0 ≤ swp (f k) m (f k)
      rw [e]; omega
    · show swp (f k) m (f k) ≤ _
      rw [e]; exact Int.le_refl _
    · show swp (f k) m (f k) < h
      rw [e]; omega
def isEmp : PyData → Bool
  | .tuple [] => true
  | _ => false
/-- how many options -/
def optN (h : Int) (gs : List (Int × Int)) : Nat := (min (h - 1) (Cm.unl (gs.map (·.2)) : Nat) + 1).toNat
def stuckB (M : List (List Int)) (gs : List (Int × Int)) (k c : Int) : Bool := (M.getD k.toNat []).any fun o => decide (lookS gs o = some c)
def caseJ (M : List (List Int)) (h : Int) : Nat → List (Int × Int) → PyData → Bool
  | d + 1, gs, .tuple [a, .list cs] =>
    (wholeD a && decide (0 ≤ intD a) && decide (intD a < M.length) && (lookS gs (intD a)).isNone && decide (cs.length = optN h gs)) &&
      (List.range cs.length).all fun i => if stuckB M gs (intD a) (i : Int) then isEmp (cs.getD i .none) else caseJ M h d (gs ++ [(intD a, (i : Int))]) (cs.getD i .none)
  | _, _, _ => false
theorem caseJ_not {M : List (List Int)} {h : Int} {d : Nat} {gs : List (Int × Int)} {D : PyData} (hd : isD "tuple" D = false) : caseJ M h d gs D = false := by
  cases d with
  | zero => rfl
  | succ d => cases D <;> first | rfl | (simp [isD, tyD] at hd)
theorem caseJ_len {M : List (List Int)} {h : Int} {d : Nat} {gs : List (Int × Int)} {ds : List PyData} (hl : ds.length ≠ 2) : caseJ M h d gs (.tuple ds) = false := by
  cases d with
  | zero => rfl
  | succ d =>
    match ds, hl with
    | [], _ => rfl
    | [_], _ => rfl
    | [_, _], h => exact absurd rfl h
    | _ :: b :: _ :: _, _ => cases b <;> rfl
theorem caseJ_list {M : List (List Int)} {h : Int} {d : Nat} {gs : List (Int × Int)} {a b : PyData} (hl : isD "list" b = false) : caseJ M h d gs (.tuple [a, b]) = false := by
  cases d with
  | zero => rfl
  | succ d => cases b <;> first | rfl | (simp [isD, tyD] at hl)
/-- a right case: no proper giving -/
theorem case_bars {M : List (List Int)} {h : Int} (A : Adj M) : ∀ {d : Nat} {gs : List (Int × Int)} {D : PyData} {m : Nat} {f : Nat → Int}, caseJ M h d gs D = true → Can m (gs.map (·.2)) → Proper M h f → (∀ k u, 0 ≤ k → lookS gs k = some u → f k.toNat = u) → False
  | 0, gs, D, m, f, hc, _, _, _ => by cases hc
  | d + 1, gs, D, m, f, hc, can, p, ag => by
    match D, hc with
    | .tuple [a, .list cs], hc =>
      unfold caseJ at hc
      simp only [Bool.and_eq_true, decide_eq_true_eq] at hc
      obtain ⟨⟨⟨⟨⟨_, k0⟩, k1⟩, kn⟩, hl⟩, all⟩ := hc
      have kn' : lookS gs (intD a) = none := Option.isNone_iff_eq_none.mp kn
      obtain ⟨k, hk⟩ : ∃ k : Nat, intD a = (k : Int) := ⟨(intD a).toNat, by omega⟩
      rw [hk] at k0 k1 kn' all
      obtain ⟨g, pg, fix, g0, g1, g2⟩ := pick_opt (m := m) p (show k < M.length by omega)
      have agg : ∀ j u, 0 ≤ j → lookS gs j = some u → g j.toNat = u := fun j u j0 hj => by
        have e := ag j u j0 hj
        have hu : u ∈ gs.map (·.2) := by
          unfold lookS at hj
          obtain ⟨q, hq, e2⟩ := Option.map_eq_some_iff.mp hj
          exact List.mem_map.mpr ⟨q, List.mem_of_find?_eq_some hq, e2⟩
        have := can.1 u hu
        rw [fix _ (by omega) (by omega), e]
      have cl : (g k).toNat < cs.length := by
        rw [hl]
        unfold optN
        rw [can.unl]
        omega
      have := List.all_eq_true.mp all _ (List.mem_range.mpr cl)
      obtain ⟨c, hcg⟩ : ∃ c : Nat, g k = (c : Int) := ⟨(g k).toNat, by omega⟩
      rw [hcg, Int.toNat_natCast] at this
      cases st : stuckB M gs (k : Int) (c : Int) with
      | true =>
        unfold stuckB at st
        obtain ⟨o, ho, e⟩ := List.any_eq_true.mp st
        rw [Int.toNat_natCast] at ho
        have e := of_decide_eq_true e
        have r := A.rng k o ho
        have := agg o _ r.1 e
        exact (pg k (by omega)).2 o ho (by rw [this, hcg])
      | false =>
        rw [st] at this
        simp only [Bool.false_eq_true, if_false] at this
        refine case_bars A this (m := max m (c + 1)) (f := g) (by rw [List.map_append]; exact can.app (by omega)) pg (fun j u j0 hj => ?_)
        rw [look_add kn'] at hj
        split at hj
        · rename_i e
          cases hj
          rw [e, Int.toNat_natCast, hcg]
        · exact agg j u j0 hj
/-! ### hues by trying, way by way -/
def blockedB (M : List (List Int)) (hs : List Int) (c : Int) : Bool := (M.getD hs.length []).any fun o => decide (o < hs.length) && decide (hs.getD o.toNat 0 = c)
def enoughF (M : List (List Int)) (h : Int) : Nat → List Int → Bool
  | 0, _ => true
  | d + 1, hs => (List.range (min h ((Cm.unl hs : Nat) + 1)).toNat).any fun c => !blockedB M hs (c : Int) && enoughF M h d (hs ++ [(c : Int)])
theorem getD_app {hs : List Int} {c : Int} {i : Nat} (h : i < hs.length) : (hs ++ [c]).getD i 0 = hs.getD i 0 := by
  rw [List.getD_eq_getElem?_getD, List.getD_eq_getElem?_getD, List.getElem?_append_left h]
theorem getD_new {hs : List Int} {c : Int} : (hs ++ [c]).getD hs.length 0 = c := by
  rw [List.getD_eq_getElem?_getD, List.getElem?_append_right (Nat.le_refl _), Nat.sub_self]; rfl
theorem enough_col {M : List (List Int)} {h : Int} (A : Adj M) : ∀ {d : Nat} {hs : List Int}, enoughF M h d hs = true → hs.length + d = M.length → (∀ x ∈ hs, 0 ≤ x ∧ x < h) → (∀ i : Nat, i < hs.length → ∀ o ∈ M.getD i [], o < (i : Int) → hs.getD o.toNat 0 ≠ hs.getD i 0) → ∃ f, Proper M h f
  | 0, hs, _, hl, hr, hp => by
    refine ⟨fun i => hs.getD i 0, fun i hi => ⟨hr _ ?_, fun o ho => ?_⟩⟩
    · show hs.getD i 0 ∈ hs
      rw [List.getD_eq_getElem?_getD, List.getElem?_eq_getElem (by omega)]
      exact List.getElem_mem _
    · have r := A.rng i o ho
      by_cases c : o < (i : Int)
      · exact hp i (by omega) o ho c
      · obtain ⟨j, rfl⟩ : ∃ j : Nat, o = (j : Int) := ⟨o.toNat, by omega⟩
        have s := (A.sym i j hi (by omega)).mp ho
        have := hp j (by omega) i s (by omega)
        rw [Int.toNat_natCast] at this ⊢
        exact fun z => this z.symm
  | d + 1, hs, he, hl, hr, hp => by
    unfold enoughF at he
    obtain ⟨c, hc, he⟩ := List.any_eq_true.mp he
    have hc := List.mem_range.mp hc
    simp only [Bool.and_eq_true, Bool.not_eq_true'] at he
    refine enough_col A he.2 (by simp; omega) (fun x hx => ?_) (fun i hi o ho hoi => ?_)
    · rcases List.mem_append.mp hx with hx | hx
      · exact hr x hx
      · rw [List.mem_singleton.mp hx]; omega
    · have r := A.rng i o ho
      rw [List.length_append, List.length_singleton] at hi
      by_cases z : i < hs.length
      · rw [getD_app (by omega), getD_app z]
        exact hp i z o ho hoi
      · obtain rfl : i = hs.length := by omega
        rw [getD_app (by omega), getD_new]
        intro e
        have bl : blockedB M hs (c : Int) = true := by
          unfold blockedB
          exact List.any_eq_true.mpr ⟨o, ho, by rw [decide_eq_true hoi, decide_eq_true e]; rfl⟩
        rw [he.1] at bl
        cases bl
theorem col_enough {M : List (List Int)} {h : Int} (A : Adj M) : ∀ {d : Nat} {hs : List Int} {m : Nat} {f : Nat → Int}, Proper M h f → hs.length + d = M.length → Can m hs → (∀ i : Nat, i < hs.length → f i = hs.getD i 0) → enoughF M h d hs = true
  | 0, _, _, _, _, _, _, _ => rfl
  | d + 1, hs, m, f, p, hl, can, ag => by
    obtain ⟨g, pg, fix, g0, g1, g2⟩ := pick_opt (m := m) p (show hs.length < M.length by omega)
    obtain ⟨c, hcg⟩ : ∃ c : Nat, g hs.length = (c : Int) := ⟨(g hs.length).toNat, by omega⟩
    have mem : ∀ i : Nat, i < hs.length → hs.getD i 0 ∈ hs := fun i hi => by
      rw [List.getD_eq_getElem?_getD, List.getElem?_eq_getElem hi]
      exact List.getElem_mem _
    have agg : ∀ i : Nat, i < hs.length → g i = hs.getD i 0 := fun i hi => by
      have := can.1 _ (mem i hi)
      rw [fix i (by rw [ag i hi]; omega) (by rw [ag i hi]; omega), ag i hi]
    unfold enoughF
    refine List.any_eq_true.mpr ⟨c, List.mem_range.mpr (by rw [can.unl]; omega), ?_⟩
    have nb : blockedB M hs (c : Int) = false := by
      cases z : blockedB M hs (c : Int) with
      | false => rfl
      | true =>
        exfalso
        unfold blockedB at z
        obtain ⟨o, ho, e⟩ := List.any_eq_true.mp z
        simp only [Bool.and_eq_true, decide_eq_true_eq] at e
        have r := A.rng _ o ho
        exact (pg hs.length (by omega)).2 o ho (by rw [agg _ (by omega), e.2, hcg])
    rw [nb, col_enough A (hs := hs ++ [(c : Int)]) (m := max m (c + 1)) pg (by simp; omega) (can.app (by omega)) (fun i hi => ?_)]
    · rfl
    · rw [List.length_append, List.length_singleton] at hi
      by_cases z : i < hs.length
      · rw [getD_app z, agg i z]
      · obtain rfl : i = hs.length := by omega
        rw [getD_new, hcg]
/-- as many hues as ways are enough -/
theorem col_all {M : List (List Int)} (A : Adj M) {h : Int} (hh : (M.length : Int) ≤ h) : Proper M h fun i => (i : Int) := fun i hi => ⟨⟨by show (0 : Int) ≤ (i : Int); omega, by show (i : Int) < h; omega⟩, fun o ho => by
  have := A.rng i o ho
  show ((o.toNat : Nat) : Int) ≠ (i : Int)
  omega⟩
theorem Proper.more {M : List (List Int)} {h h' : Int} {f : Nat → Int} (p : Proper M h f) (hh : h ≤ h') : Proper M h' f := fun i hi => by
  obtain ⟨⟨a, b⟩, c⟩ := p i hi
  exact ⟨⟨a, by omega⟩, c⟩
theorem atI_nat' {α : Type} {xs : List α} {i : Nat} {x : α} (h : xs[i]? = some x) : atI xs (0 + (i : Nat)) = some x := by rw [Int.zero_add]; exact atI_nat h
theorem forE {K : PySem.W.Frag} {σ : L2.St} {H : Hp} {nx : L2.St → Hp → Prop} {rt : VK} {b : Addr} {xs : List V} {g : TG} {tb : TS} (hs0 : SqL K H b xs) (Pv : Nat → L2.St → Hp → Prop) (h0 : Pv 0 σ H) (hl : ∀ i σ H, Pv i σ H → SqL K H b xs)
    (hs : ∀ (i : Nat) x σ H T H', xs[i]? = some x → Pv i σ H → H T = none → Same H H' → H' T = some (.tup [.int (i : Nat), x]) → g (.ref T) σ H' fun σ2 H2 => tb ⟨Pv (i + 1), rt, nx, Pv (i + 1)⟩ σ2 H2) (hd : ∀ σ H, Pv xs.length σ H → nx σ H) :
    ∃ a xs, [V.ref b] = [.ref a] ∧ SqL K H a xs ∧ ∃ W : Nat → Nat → L2.St → Hp → Prop, (∃ m, W 0 m σ H) ∧ ∀ i m σ H, W i m σ H →
      ((Ite K a).stop i H ∧ nx σ H) ∨ ((Ite K a).go i H ∧ ∃ N : L2.St → Hp → Prop, (∀ σ' H', N σ' H' → ∃ m', m' < m ∧ W (i + 1) m' σ' H') ∧ ∀ x H', (Ite K a).yld i H x H' → g x σ H' fun σ2 H2 => tb ⟨N, rt, nx, N⟩ σ2 H2) := by
  refine ⟨b, xs, rfl, hs0, for_it (D := ⟨nx, rt, fun _ _ => False, fun _ _ => False⟩) walk_enum Pv h0 (fun i σ H _ p => hl i σ H p) ?_ hd⟩
  rintro i y σ H1 H2 hi p ⟨T, x1, x2, rfl, nT, rfl, hx1, hx2⟩
  cases hx1
  exact hs i x2 σ H1 T _ hx2 p nT (same_new nT) upd_same
theorem k_slT {K : PySem.W.Frag} {H : Hp} {Q : VK} {a : Addr} {xs : List V} {lo hi : Option Int} (hs : SqT K H a xs) (hw : ¬ (HT.sIx xs.length 0 lo = 0 ∧ HT.sIx xs.length xs.length hi = xs.length)) (h : ∀ p H', H p = none → Same H H' → H' p = some (.tup (cutV xs lo hi)) → Q (.ref p) H') : rSlT K (.ref a) lo hi H Q := ⟨a, xs, rfl, hs, hw, fun p np => h p _ np (same_new np) upd_same⟩
theorem forT {K : PySem.W.Frag} {σ : L2.St} {H : Hp} {nx : L2.St → Hp → Prop} {rt : VK} {b : Addr} {xs : List V} {g : TG} {tb : TS} (hs0 : SqT K H b xs) (Pv : Nat → L2.St → Hp → Prop) (h0 : Pv 0 σ H) (hl : ∀ i σ H, i ≤ xs.length → Pv i σ H → SqT K H b xs)
    (hs : ∀ (i : Nat) x σ H, xs[i]? = some x → Pv i σ H → g x σ H fun σ2 H2 => tb ⟨Pv (i + 1), rt, nx, Pv (i + 1)⟩ σ2 H2) (hd : ∀ σ H, Pv xs.length σ H → nx σ H) :
    ∃ a, V.ref b = .ref a ∧ (∃ xs, SqT K H a xs) ∧ ∃ W : Nat → Nat → L2.St → Hp → Prop, (∃ m, W 0 m σ H) ∧ ∀ i m σ H, W i m σ H →
      ((Itt K a).stop i H ∧ nx σ H) ∨ ((Itt K a).go i H ∧ ∃ N : L2.St → Hp → Prop, (∀ σ' H', N σ' H' → ∃ m', m' < m ∧ W (i + 1) m' σ' H') ∧ ∀ x H', (Itt K a).yld i H x H' → g x σ H' fun σ2 H2 => tb ⟨N, rt, nx, N⟩ σ2 H2) :=
  ⟨b, rfl, ⟨xs, hs0⟩, for_tup (D := ⟨nx, rt, fun _ _ => False, fun _ _ => False⟩) Pv h0 hl hs hd⟩
theorem dpa3 {K : PySem.W.Frag} {H : Hp} {xs : List V} {ds : List PyData} (h : DpAll K H xs ds) (hl : ds.length = 3) : ∃ x y z a b c, xs = [x, y, z] ∧ ds = [a, b, c] ∧ Dp K H x a ∧ Dp K H y b ∧ Dp K H z c := by
  match ds, hl with
  | [a, b, c], _ =>
    cases h with | cons h1 h => cases h with | cons h2 h => cases h with | cons h3 h =>
      cases h
      exact ⟨_, _, _, _, _, _, rfl, rfl, h1, h2, h3⟩
theorem isD_str {d : PyData} (h : isD "str" d = true) : ∃ s, d = .str s := by
  cases d <;> first | exact ⟨_, rfl⟩ | (simp [isD, tyD] at h)
theorem isD_tup {d : PyData} (h : isD "tuple" d = true) : ∃ s, d = .tuple s := by
  cases d <;> first | exact ⟨_, rfl⟩ | (simp [isD, tyD] at h)
theorem isD_list {d : PyData} (h : isD "list" d = true) : ∃ s, d = .list s := by
  cases d <;> first | exact ⟨_, rfl⟩ | (simp [isD, tyD] at h)
theorem dp_whole {K : PySem.W.Frag} {H : Hp} {v : V} {d : PyData} (h : Dp K H v d) (w : wholeD d = true) : v = .int (intD d) := by
  rw [whole_int w] at h
  exact dp_int h
theorem bcases (b : Bool) : b = true ∨ b = false := by cases b <;> simp


theorem ring_turn {n a b t : Int} (hn : 3 ≤ n) (h : isWay (.ring n) a b) (t0 : 0 ≤ t) (t1 : t < n) : OnTie (.ring n) b a t ↔ ¬ OnTie (.ring n) a b t := by
  obtain ⟨w1, w2, w3, w4, w5⟩ := h
  have w4' : a < n := w4
  have w5' : b < n := w5
  show (0 ≤ t ∧ t < n ∧ up n b t < up n b a) ↔ ¬ (0 ≤ t ∧ t < n ∧ up n a t < up n a b)
  unfold up
  constructor
  · rintro ⟨_, _, z⟩ ⟨_, _, y⟩
    repeat' split at z
    all_goals repeat' split at y
    all_goals omega
  · intro z
    refine ⟨t0, t1, ?_⟩
    have z' : ¬ (if a ≤ t then t - a else t - a + n) < (if a ≤ b then b - a else b - a + n) := fun y => z ⟨t0, t1, y⟩
    repeat' split at z'
    all_goals repeat' split
    all_goals omega
/-! ### ways on a ring, some of them settled: pairs of ties -/
/-- how a way lies on a tie: as it is told (0) or turned (1) -/
def onB (n : Int) (w : Int × Int) (u t : Int) : Bool := decide (OnTie (.ring n) (turnW w u).1 (turnW w u).2 t)
def b2i (b : Bool) : Int := if b then 1 else 0
def wt (n : Int) (w : Int × Int) (o : Option Int) (e f : Int) : Int := match o with
  | some u => b2i (onB n w u e) + b2i (onB n w u f)
  | none => if onB n w 0 e = onB n w 0 f then 0 else 1
def sumTo (n : Int) (ws ss : List (Int × Int)) (e f : Int) : Nat → Int
  | 0 => 0
  | i + 1 => sumTo n ws ss e f i + wt n (ws.getD i (0, 0)) (lookS ss (i : Int)) e f
abbrev sumF (n : Int) (ws ss : List (Int × Int)) (e f : Int) : Int := sumTo n ws ss e f ws.length
inductive Pap where
  | ties (e f : Int)
  | cut (k : Int) (one other : Pap)
def Pap.d : Pap → PyData
  | .ties e f => .tuple [.str (Str.ofString "ties"), .int e, .int f]
  | .cut k a b => .tuple [.int k, a.d, b.d]
def PapOk (n : Int) (ws : List (Int × Int)) (m : Int) : List (Int × Int) → Pap → Prop
  | ss, .ties e f => (0 ≤ e ∧ e < n) ∧ (0 ≤ f ∧ f < n) ∧ 2 * m < sumF n ws ss e f
  | ss, .cut k a b => 0 ≤ k ∧ k < ws.length ∧ lookS ss k = none ∧ PapOk n ws m (ss ++ [(k, 0)]) a ∧ PapOk n ws m (ss ++ [(k, 1)]) b
section
variable {n : Int} {ws : List (Int × Int)}
theorem onB_turn {w : Int × Int} {t : Int} (hn : 3 ≤ n) (hw : isWay (.ring n) w.1 w.2) (t0 : 0 ≤ t) (t1 : t < n) : onB n w 1 t = !onB n w 0 t := by
  have := ring_turn hn hw t0 t1
  unfold onB turnW
  rw [if_pos rfl, if_neg (by decide)]
  by_cases c : OnTie (.ring n) w.1 w.2 t
  · rw [decide_eq_true c, decide_eq_false (fun z => (this.mp z) c)]; rfl
  · rw [decide_eq_false c, decide_eq_true (this.mpr c)]; rfl
/-- how a turning lies on a tie -/
def loadTo (n : Int) (ws : List (Int × Int)) (us : List Int) (e : Int) : Nat → Int
  | 0 => 0
  | i + 1 => loadTo n ws us e i + b2i (onB n (ws.getD i (0, 0)) (us.getD i 0) e)
theorem wt_le {w : Int × Int} {e f u : Int} {o : Option Int} (hn : 3 ≤ n) (hw : isWay (.ring n) w.1 w.2) (e0 : 0 ≤ e ∧ e < n) (f0 : 0 ≤ f ∧ f < n) (hu : u = 0 ∨ u = 1) (ho : ∀ v, o = some v → u = v) : wt n w o e f ≤ b2i (onB n w u e) + b2i (onB n w u f) := by
  cases o with
  | some v => rw [ho v rfl]; exact Int.le_refl _
  | none =>
    have a := onB_turn hn hw e0.1 e0.2
    have b := onB_turn hn hw f0.1 f0.2
    show (if onB n w 0 e = onB n w 0 f then 0 else 1) ≤ _
    rcases hu with rfl | rfl
    · cases onB n w 0 e <;> cases onB n w 0 f <;> simp [b2i]
    · rw [a, b]
      cases onB n w 0 e <;> cases onB n w 0 f <;> simp [b2i]
theorem sum_le {ss : List (Int × Int)} {us : List Int} {e f : Int} (hn : 3 ≤ n) (hw : ∀ w ∈ ws, isWay (.ring n) w.1 w.2) (e0 : 0 ≤ e ∧ e < n) (f0 : 0 ≤ f ∧ f < n) (hu : ∀ i : Nat, us.getD i 0 = 0 ∨ us.getD i 0 = 1) (ag : ∀ (i : Nat) v, i < ws.length → lookS ss (i : Int) = some v → us.getD i 0 = v) : ∀ i, i ≤ ws.length → sumTo n ws ss e f i ≤ loadTo n ws us e i + loadTo n ws us f i
  | 0, _ => by simp [sumTo, loadTo]
  | i + 1, hi => by
    have ih := sum_le hn hw e0 f0 hu ag i (by omega)
    have hm : ws.getD i (0, 0) ∈ ws := by
      rw [List.getD_eq_getElem?_getD, List.getElem?_eq_getElem (by omega)]
      exact List.getElem_mem _
    have := wt_le (o := lookS ss (i : Int)) hn (hw _ hm) e0 f0 (hu i) (fun v hv => ag i v (by omega) hv)
    simp only [sumTo, loadTo]
    omega
/-- a paper bars every turning -/
theorem pap_bars {m : Int} {us : List Int} (hn : 3 ≤ n) (hw : ∀ w ∈ ws, isWay (.ring n) w.1 w.2) (hu : ∀ i : Nat, us.getD i 0 = 0 ∨ us.getD i 0 = 1) : ∀ {p : Pap} {ss : List (Int × Int)}, PapOk n ws m ss p → (∀ (i : Nat) v, i < ws.length → lookS ss (i : Int) = some v → us.getD i 0 = v) → ∃ e, (0 ≤ e ∧ e < n) ∧ m < loadTo n ws us e ws.length
  | .ties e f, ss, h, ag => by
    obtain ⟨e0, f0, h⟩ := h
    have := sum_le hn hw e0 f0 hu ag ws.length (Nat.le_refl _)
    by_cases c : m < loadTo n ws us e ws.length
    · exact ⟨e, e0, c⟩
    · refine ⟨f, f0, ?_⟩
      have h' : 2 * m < sumTo n ws ss e f ws.length := h
      omega
  | .cut k a b, ss, h, ag => by
    obtain ⟨k0, k1, kn, ha, hb⟩ := h
    have hk : us.getD k.toNat 0 = 0 ∨ us.getD k.toNat 0 = 1 := hu _
    rcases hk with hk | hk
    · refine pap_bars hn hw hu ha (fun i v hi hv => ?_)
      rw [look_add kn] at hv
      split at hv
      · rename_i e; cases hv; have e' : i = k.toNat := by omega
        rw [e']; exact hk
      · exact ag i v hi hv
    · refine pap_bars hn hw hu hb (fun i v hi hv => ?_)
      rw [look_add kn] at hv
      split at hv
      · rename_i e; cases hv; have e' : i = k.toNat := by omega
        rw [e']; exact hk
      · exact ag i v hi hv
/-- all settled: the pair e, e tells the load twice -/
theorem sum_all {ss : List (Int × Int)} {us : List Int} {e : Int} (ag : ∀ i : Nat, i < ws.length → lookS ss (i : Int) = some (us.getD i 0)) : ∀ i, i ≤ ws.length → sumTo n ws ss e e i = 2 * loadTo n ws us e i
  | 0, _ => by simp [sumTo, loadTo]
  | i + 1, hi => by
    have ih := sum_all (e := e) ag i (by omega)
    simp only [sumTo, loadTo, ag i (by omega), wt, ih]
    omega
/-- ties with the same mark have the same load -/
theorem load_like {us : List Int} {e t : Int} (hn : 3 ≤ n) (hw : ∀ w ∈ ws, isWay (.ring n) w.1 w.2) (e0 : 0 ≤ e ∧ e < n) (t0 : 0 ≤ t ∧ t < n) (hu : ∀ i : Nat, us.getD i 0 = 0 ∨ us.getD i 0 = 1) (lk : ∀ i : Nat, i < ws.length → onB n (ws.getD i (0, 0)) 0 e = onB n (ws.getD i (0, 0)) 0 t) : ∀ i, i ≤ ws.length → loadTo n ws us e i = loadTo n ws us t i
  | 0, _ => rfl
  | i + 1, hi => by
    have ih := load_like hn hw e0 t0 hu lk i (by omega)
    have hm : ws.getD i (0, 0) ∈ ws := by
      rw [List.getD_eq_getElem?_getD, List.getElem?_eq_getElem (by omega)]
      exact List.getElem_mem _
    have l := lk i (by omega)
    simp only [loadTo, ih]
    rcases hu i with z | z
    · rw [z, l]
    · rw [z, onB_turn hn (hw _ hm) e0.1 e0.2, onB_turn hn (hw _ hm) t0.1 t0.2, l]
theorem load_nonneg {us : List Int} {e : Int} : ∀ i, 0 ≤ loadTo n ws us e i
  | 0 => by simp [loadTo]
  | i + 1 => by
    have := load_nonneg (us := us) (e := e) i
    have b : 0 ≤ b2i (onB n (ws.getD i (0, 0)) (us.getD i 0) e) := by unfold b2i; split <;> omega
    simp only [loadTo]
    omega
end
/-! ### the ways settled from the first one on -/
def ssOf (us : List Int) : List (Int × Int) := (List.range us.length).map fun i : Nat => ((i : Int), us.getD i 0)
theorem ssOf_len (us : List Int) : (ssOf us).length = us.length := by simp [ssOf]
theorem ssOf_app (us : List Int) (u : Int) : ssOf (us ++ [u]) = ssOf us ++ [((us.length : Int), u)] := by
  unfold ssOf
  rw [List.length_append, show [u].length = 1 from rfl, List.range_succ, List.map_append]
  congr 1
  · refine List.map_congr_left fun i hi => ?_
    rw [List.getD_eq_getElem?_getD, List.getElem?_append_left (List.mem_range.mp hi), ← List.getD_eq_getElem?_getD]
  · simp
theorem look_ssOf (us : List Int) : ∀ m, m ≤ us.length → ∀ i : Nat, lookS ((List.range m).map fun i : Nat => ((i : Int), us.getD i 0)) (i : Int) = if i < m then some (us.getD i 0) else none
  | 0, _, i => by simp [lookS]
  | m + 1, hm, i => by
    have ih := look_ssOf us m (by omega)
    rw [List.range_succ, List.map_append]
    have h0 : lookS ((List.range m).map fun i : Nat => ((i : Int), us.getD i 0)) (m : Int) = none := by rw [ih]; simp
    rw [show List.map (fun i : Nat => ((i : Int), us.getD i 0)) [m] = [((m : Int), us.getD m 0)] from rfl, look_add h0, ih]
    by_cases c : i = m
    · subst c; simp
    · rw [if_neg (by omega)]
      by_cases d : i < m
      · rw [if_pos d, if_pos (by omega)]
      · rw [if_neg d, if_neg (by omega)]
theorem look_ss (us : List Int) (i : Nat) : lookS (ssOf us) (i : Int) = if i < us.length then some (us.getD i 0) else none := look_ssOf us us.length (Nat.le_refl _) i
theorem look_neg (us : List Int) {k : Int} (h : k < 0) : lookS (ssOf us) k = none := by
  unfold lookS
  rw [List.find?_eq_none.mpr]
  · rfl
  · intro p hp z
    unfold ssOf at hp
    obtain ⟨i, _, rfl⟩ := List.mem_map.mp hp
    have : (i : Int) = k := of_decide_eq_true z
    omega
def T01 (us : List Int) : Prop := ∀ u ∈ us, u = 0 ∨ u = 1
theorem T01.get {us : List Int} (h : T01 us) (i : Nat) : us.getD i 0 = 0 ∨ us.getD i 0 = 1 := by
  rw [List.getD_eq_getElem?_getD]
  cases c : us[i]? with
  | none => exact .inl rfl
  | some u => exact h u (List.mem_of_getElem? c)
theorem T01.app {us : List Int} {u : Int} (h : T01 us) (hu : u = 0 ∨ u = 1) : T01 (us ++ [u]) := fun v hv => by
  rcases List.mem_append.mp hv with z | z
  · exact h v z
  · rw [List.mem_singleton.mp z]; exact hu
def Pap.dep : Pap → Nat
  | .ties _ _ => 0
  | .cut _ a b => max a.dep b.dep + 1
section
variable {n : Int} {ws : List (Int × Int)} {us : List Int}
theorem load_le {e : Int} : ∀ i, loadTo n ws us e i ≤ i
  | 0 => by simp [loadTo]
  | i + 1 => by
    have := load_le (e := e) i
    have b : b2i (onB n (ws.getD i (0, 0)) (us.getD i 0) e) ≤ 1 := by unfold b2i; split <;> omega
    simp only [loadTo]
    omega
theorem b2i_nonneg (b : Bool) : 0 ≤ b2i b := by cases b <;> decide
theorem load_mono {e : Int} : ∀ {i j : Nat}, i ≤ j → loadTo n ws us e i ≤ loadTo n ws us e j := by
  intro i j h
  induction h with
  | refl => exact Int.le_refl _
  | step h ih =>
    simp only [loadTo]
    exact Int.le_trans ih (by rename_i m; have := b2i_nonneg (onB n (ws.getD m (0, 0)) (us.getD m 0) e); omega)
theorem on_start {w : Int × Int} {u : Int} (hw : isWay (.ring n) w.1 w.2) : ∃ e, (0 ≤ e ∧ e < n) ∧ onB n w u e = true := by
  obtain ⟨h1, h2, h3, h4, h5⟩ := hw
  have h4' : w.1 < n := h4
  have h5' : w.2 < n := h5
  unfold onB turnW
  by_cases c : u = 1
  · rw [if_pos c]
    refine ⟨w.2, ⟨h3, h5'⟩, decide_eq_true ⟨h3, h5', ?_⟩⟩
    unfold up
    rw [if_pos (Int.le_refl _)]
    split <;> omega
  · rw [if_neg c]
    refine ⟨w.1, ⟨h2, h4'⟩, decide_eq_true ⟨h2, h4', ?_⟩⟩
    unfold up
    rw [if_pos (Int.le_refl _)]
    split <;> omega
/-- some tie bears a way -/
theorem load_pos (hw : ∀ w ∈ ws, isWay (.ring n) w.1 w.2) (h0 : 0 < ws.length) : ∃ e, (0 ≤ e ∧ e < n) ∧ 1 ≤ loadTo n ws us e ws.length := by
  obtain ⟨e, he, h1⟩ := on_start (u := us.getD 0 0) (hw (ws.getD 0 (0, 0)) (by rw [List.getD_eq_getElem?_getD, List.getElem?_eq_getElem h0]; exact List.getElem_mem _))
  refine ⟨e, he, ?_⟩
  have h2 : loadTo n ws us e 1 ≤ loadTo n ws us e ws.length := load_mono (by omega)
  have h3 : loadTo n ws us e 1 = 1 := by simp only [loadTo]; rw [h1]; rfl
  omega
/-- the law's count is the load -/
theorem cnt_turn {t : Int} (hl : us.length = ws.length) : ∀ i, i ≤ ws.length → (cnt (.ring n) ((turnAll ws us).take i) t : Int) = loadTo n ws us t i
  | 0, _ => by simp [cnt, loadTo]
  | i + 1, hi => by
    have ih := cnt_turn (t := t) hl i (by omega)
    have hw : (turnAll ws us)[i]? = some (turnW (ws.getD i (0, 0)) (us.getD i 0)) := by
      unfold turnAll
      rw [List.getElem?_zipWith, List.getElem?_eq_getElem (show i < ws.length by omega), List.getElem?_eq_getElem (show i < us.length by omega)]
      simp [List.getD_eq_getElem?_getD, List.getElem?_eq_getElem (show i < ws.length by omega), List.getElem?_eq_getElem (show i < us.length by omega)]
    rw [cnt_take hw]
    simp only [loadTo]
    rw [← ih, Int.natCast_add]
    congr 1
    unfold onB b2i
    by_cases c : OnTie (.ring n) (turnW (ws.getD i (0, 0)) (us.getD i 0)).1 (turnW (ws.getD i (0, 0)) (us.getD i 0)).2 t
    · rw [if_pos c, if_pos (decide_eq_true c)]; rfl
    · rw [if_neg c, if_neg (by simpa using c)]; rfl
theorem cnt_all {t : Int} (hl : us.length = ws.length) : (cnt (.ring n) (turnAll ws us) t : Int) = loadTo n ws us t ws.length := by
  have := cnt_turn (n := n) (t := t) hl ws.length (Nat.le_refl _)
  rwa [List.take_of_length_le (by unfold turnAll; rw [List.length_zipWith]; omega)] at this
/-- what load tells of the turned ways -/
def IsL (n : Int) (ws : List (Int × Int)) (us : List Int) (m : Int) : Prop := (∃ e, (0 ≤ e ∧ e < n) ∧ loadTo n ws us e ws.length = m) ∧ ∀ e, 0 ≤ e → e < n → loadTo n ws us e ws.length ≤ m
theorem isL_of {m : Int} (hn : 3 ≤ n) (hl : us.length = ws.length) (h1 : m ∈ loadsOf (.ring n) (turnAll ws us)) (h2 : ∀ y ∈ loadsOf (.ring n) (turnAll ws us), y ≤ m) : IsL n ws us m := by
  unfold loadsOf at h1 h2
  obtain ⟨t, ht, e⟩ := List.mem_map.mp h1
  have ht' : t < n.toNat := List.mem_range.mp ht
  refine ⟨⟨t, ⟨by omega, by omega⟩, by rw [← cnt_all hl]; exact e⟩, fun e h3 h4 => ?_⟩
  rw [← cnt_all hl]
  have := h2 _ (List.mem_map_of_mem (f := fun t : Nat => (cnt (.ring n) (turnAll ws us) (t : Nat) : Int)) (List.mem_range.mpr (show e.toNat < n.toNat by omega)))
  rwa [Int.toNat_of_nonneg h3] at this
theorem IsL.one {m k : Int} (h : IsL n ws us m) (h' : IsL n ws us k) : m = k := by
  obtain ⟨⟨e, he, a⟩, b⟩ := h
  obtain ⟨⟨f, hf, c⟩, d⟩ := h'
  have := d e he.1 he.2
  have := b f hf.1 hf.2
  omega
/-- a short way on a tie misses the tie half round -/
theorem short_miss {w : Int × Int} {e : Int} (hn : 3 ≤ n) (hw : isWay (.ring n) w.1 w.2) (e0 : 0 ≤ e ∧ e < n) (h : onB n w (short n w) e = true) : onB n w (short n w) ((e + n / 2) % n) = false := by
  obtain ⟨h1, h2, h3, h4, h5⟩ := hw
  have h4' : w.1 < n := h4
  have h5' : w.2 < n := h5
  have em : (e + n / 2) % n = if e + n / 2 < n then e + n / 2 else e + n / 2 - n := by
    split
    · exact Int.emod_eq_of_lt (by omega) (by omega)
    · rw [← Int.sub_emod_right]; exact Int.emod_eq_of_lt (by omega) (by omega)
  rw [em]
  have hh : n / 2 * 2 ≤ n ∧ n < n / 2 * 2 + 2 := by omega
  generalize n / 2 = q at hh ⊢
  unfold onB turnW short at *
  have c0 : n < 2 * up n w.1 w.2 ∨ ¬ n < 2 * up n w.1 w.2 := by omega
  rcases c0 with c0 | c0
  · rw [if_pos c0, if_pos rfl] at h ⊢
    obtain ⟨a1, a2, a3⟩ := of_decide_eq_true h
    refine decide_eq_false ?_
    rintro ⟨b1, b2, b3⟩
    unfold up at c0 a3 b3
    generalize hf : (if e + q < n then e + q else e + q - n) = f at b1 b2 b3
    repeat' split at hf
    all_goals repeat' split at c0
    all_goals repeat' split at a3
    all_goals repeat' split at b3
    all_goals omega
  · rw [if_neg c0, if_neg (show ¬ (0 : Int) = 1 by decide)] at h ⊢
    obtain ⟨a1, a2, a3⟩ := of_decide_eq_true h
    refine decide_eq_false ?_
    rintro ⟨b1, b2, b3⟩
    unfold up at c0 a3 b3
    generalize hf : (if e + q < n then e + q else e + q - n) = f at b1 b2 b3
    repeat' split at hf
    all_goals repeat' split at c0
    all_goals repeat' split at a3
    all_goals repeat' split at b3
    all_goals omega
theorem short_01 (w : Int × Int) : short n w = 0 ∨ short n w = 1 := by unfold short; split <;> simp
theorem short_sum {e : Int} (hn : 3 ≤ n) (hw : ∀ w ∈ ws, isWay (.ring n) w.1 w.2) (e0 : 0 ≤ e ∧ e < n) : ∀ i, i ≤ ws.length → loadTo n ws (ws.map (short n)) e i ≤ sumTo n ws [] e ((e + n / 2) % n) i
  | 0, _ => by simp [sumTo, loadTo]
  | i + 1, hi => by
    have ih := short_sum hn hw e0 i (by omega)
    have f0 : 0 ≤ (e + n / 2) % n ∧ (e + n / 2) % n < n := ⟨Int.emod_nonneg _ (by omega), Int.emod_lt_of_pos _ (by omega)⟩
    have hi' : i < ws.length := by omega
    have hg : ws.getD i (0, 0) = ws[i] := by rw [List.getD_eq_getElem?_getD, List.getElem?_eq_getElem hi']; rfl
    have hs : (ws.map (short n)).getD i 0 = short n ws[i] := by rw [List.getD_eq_getElem?_getD, List.getElem?_map, List.getElem?_eq_getElem hi']; rfl
    have wi := hw _ (List.getElem_mem hi')
    simp only [loadTo, sumTo, hg, hs, look_nil, wt]
    have a := onB_turn hn wi e0.1 e0.2
    have b := onB_turn hn wi f0.1 f0.2
    have key : b2i (onB n ws[i] (short n ws[i]) e) ≤ if onB n ws[i] 0 e = onB n ws[i] 0 ((e + n / 2) % n) then 0 else 1 := by
      cases c : onB n ws[i] (short n ws[i]) e with
      | false => rw [show b2i false = 0 from rfl]; split <;> omega
      | true =>
        have d := short_miss hn wi e0 c
        rw [if_neg]
        · decide
        · rcases short_01 (n := n) ws[i] with z | z
          · rw [z] at c d; rw [c, d]; decide
          · rw [z] at c d
            rw [a] at c
            rw [b] at d
            intro y
            rw [y] at c
            rw [c] at d
            cases d
    omega
/-- the short turning bears at most twice what any does -/
theorem short_twice {m k : Int} (hn : 3 ≤ n) (hw : ∀ w ∈ ws, isWay (.ring n) w.1 w.2) (hu : T01 us) (h : IsL n ws us m) (hs : IsL n ws (ws.map (short n)) k) : k ≤ 2 * m := by
  obtain ⟨⟨e, he, rfl⟩, _⟩ := hs
  have f0 : 0 ≤ (e + n / 2) % n ∧ (e + n / 2) % n < n := ⟨Int.emod_nonneg _ (by omega), Int.emod_lt_of_pos _ (by omega)⟩
  have h1 := short_sum hn hw he ws.length (Nat.le_refl _)
  have h2 := sum_le (ss := []) hn hw he f0 hu.get (fun i v _ z => by cases z) ws.length (Nat.le_refl _)
  have h3 := h.2 e he.1 he.2
  have h4 := h.2 _ f0.1 f0.2
  omega
end
theorem turn_ok {n : Int} : ∀ {ws : List (Int × Int)} {us : List Int}, (∀ w ∈ ws, isWay (.ring n) w.1 w.2) → ∀ w ∈ turnAll ws us, isWay (.ring n) w.1 w.2
  | [], _, _, w, h => by cases h
  | _ :: _, [], _, w, h => by cases h
  | a :: ws, u :: us, hw, w, h => by
    rcases List.mem_cons.mp (show w ∈ turnW a u :: turnAll ws us from h) with rfl | h
    · obtain ⟨h1, h2, h3, h4, h5⟩ := hw a List.mem_cons_self
      unfold turnW
      split
      · exact ⟨fun z => h1 z.symm, h3, h2, h5, h4⟩
      · exact ⟨h1, h2, h3, h4, h5⟩
    · exact turn_ok (fun w hw' => hw w (List.mem_cons_of_mem _ hw')) w h
theorem turn_len {ws : List (Int × Int)} {us : List Int} (h : us.length = ws.length) : (turnAll ws us).length = ws.length := by unfold turnAll; rw [List.length_zipWith]; omega
theorem T01.ok {ws : List (Int × Int)} {us : List Int} (h : T01 us) (hl : us.length = ws.length) : TurnOk ws us := ⟨hl, fun u hu => by rcases h u hu with z | z <;> omega⟩
theorem short_T {n : Int} (ws : List (Int × Int)) : T01 (ws.map (short n)) := fun u hu => by
  obtain ⟨w, _, rfl⟩ := List.mem_map.mp hu
  exact short_01 w
/-- a right paper: no turning bears as little -/
theorem least_of {n m k : Int} {ws : List (Int × Int)} {vs : List Int} {P : Pap} (hn : 3 ≤ n) (hw : ∀ w ∈ ws, isWay (.ring n) w.1 w.2) (hP : PapOk n ws (m - 1) [] P) (tv : T01 vs) (hk : IsL n ws vs k) : m ≤ k := by
  obtain ⟨e, he, h⟩ := pap_bars hn hw tv.get hP (fun i v _ z => by cases z)
  have := hk.2 e he.1 he.2
  omega
/-! ### the judge of turn papers -/
def tieD (n : Int) (d : PyData) : Bool := wholeD d && decide (0 ≤ intD d) && decide (intD d < n)
def isTies : PyData → Bool
  | .str s => decide (s = Str.ofString "ties")
  | _ => false
def papJ (n : Int) (ws : List (Int × Int)) (m : Int) : Nat → List (Int × Int) → PyData → Bool
  | d + 1, ss, .tuple [a, b, c] =>
    if isD "str" a = true then (tieD n b && tieD n c) && (isTies a && decide (2 * m < sumF n ws ss (intD b) (intD c)))
    else (wholeD a && decide (0 ≤ intD a) && decide (intD a < ws.length) && (lookS ss (intD a)).isNone) && (papJ n ws m d (ss ++ [(intD a, 0)]) b && papJ n ws m d (ss ++ [(intD a, 1)]) c)
  | _, _, _ => false
theorem papJ_not {n : Int} {ws : List (Int × Int)} {m : Int} {d : Nat} {ss : List (Int × Int)} {D : PyData} (h : isD "tuple" D = false) : papJ n ws m d ss D = false := by
  cases d with
  | zero => rfl
  | succ d => cases D <;> first | rfl | (simp [isD, tyD] at h)
theorem papJ_len {n : Int} {ws : List (Int × Int)} {m : Int} {d : Nat} {ss : List (Int × Int)} {ds : List PyData} (h : ds.length ≠ 3) : papJ n ws m d ss (.tuple ds) = false := by
  cases d with
  | zero => rfl
  | succ d =>
    match ds, h with
    | [], _ => rfl
    | [_], _ => rfl
    | [_, _], _ => rfl
    | [_, _, _], h => exact absurd rfl h
    | _ :: _ :: _ :: _ :: _, _ => rfl
/-- ways that are not settled -/
def fr (ws ss : List (Int × Int)) : Nat := (List.range ws.length).countP fun i : Nat => (lookS ss (i : Int)).isNone
theorem fr_lt {ws ss : List (Int × Int)} {k u : Int} (k0 : 0 ≤ k) (k1 : k < ws.length) (h : lookS ss k = none) : fr ws (ss ++ [(k, u)]) < fr ws ss := by
  refine countP_lt (fun i _ hi => ?_) ⟨k.toNat, List.mem_range.mpr (by omega), ?_, ?_⟩
  · rw [look_add h] at hi
    split at hi
    · cases hi
    · exact hi
  · rw [Int.toNat_of_nonneg k0, h]; rfl
  · rw [look_add h, Int.toNat_of_nonneg k0, if_pos rfl]; rfl
theorem fr_nil (ws : List (Int × Int)) : fr ws [] = ws.length := by
  show (List.range ws.length).countP (fun _ => true) = ws.length
  rw [List.countP_true, List.length_range]
theorem pap_J {n : Int} {ws : List (Int × Int)} {m : Int} : ∀ {P : Pap} {d : Nat} {ss : List (Int × Int)}, PapOk n ws m ss P → P.dep < d → papJ n ws m d ss P.d = true
  | .ties e f, d + 1, ss, h, _ => by
    obtain ⟨⟨e0, e1⟩, ⟨f0, f1⟩, h⟩ := h
    simp [Pap.d, papJ, isD, tyD, tieD, wholeD, intD, isTies, e0, e1, f0, f1, h]
  | .cut k a b, d + 1, ss, h, hd => by
    obtain ⟨k0, k1, kn, ha, hb⟩ := h
    have hd' : max a.dep b.dep < d := by simp only [Pap.dep] at hd; omega
    have ia := pap_J (d := d) ha (by omega)
    have ib := pap_J (d := d) hb (by omega)
    simp [Pap.d, papJ, isD, tyD, wholeD, intD, k0, k1, kn, ia, ib]
/-- a paper that is let by bars every turning -/
theorem papJ_bars {n : Int} {ws : List (Int × Int)} {m : Int} {us : List Int} (hn : 3 ≤ n) (hw : ∀ w ∈ ws, isWay (.ring n) w.1 w.2) (hu : ∀ i : Nat, us.getD i 0 = 0 ∨ us.getD i 0 = 1) : ∀ {d : Nat} {ss : List (Int × Int)} {D : PyData}, papJ n ws m d ss D = true → (∀ (i : Nat) v, i < ws.length → lookS ss (i : Int) = some v → us.getD i 0 = v) → ∃ e, (0 ≤ e ∧ e < n) ∧ m < loadTo n ws us e ws.length
  | 0, ss, D, h, _ => by cases h
  | d + 1, ss, D, h, ag => by
    match D, h with
    | .tuple [a, b, c], h =>
      unfold papJ at h
      by_cases cs : isD "str" a = true
      · rw [if_pos cs] at h
        simp only [Bool.and_eq_true, tieD, decide_eq_true_eq] at h
        obtain ⟨⟨⟨⟨_, e0⟩, e1⟩, ⟨_, f0⟩, f1⟩, _, h⟩ := h
        exact pap_bars hn hw hu (p := .ties (intD b) (intD c)) ⟨⟨e0, e1⟩, ⟨f0, f1⟩, h⟩ ag
      · rw [if_neg cs] at h
        simp only [Bool.and_eq_true, decide_eq_true_eq] at h
        obtain ⟨⟨⟨⟨_, k0⟩, k1⟩, kn⟩, ha, hb⟩ := h
        have kn' : lookS ss (intD a) = none := by
          cases z : lookS ss (intD a) with
          | none => rfl
          | some v => rw [z] at kn; cases kn
        rcases hu (intD a).toNat with hk | hk
        · refine papJ_bars hn hw hu ha (fun i v hi hv => ?_)
          rw [look_add kn'] at hv
          split at hv
          · rename_i e; cases hv; have e' : i = (intD a).toNat := by omega
            rw [e']; exact hk
          · exact ag i v hi hv
        · refine papJ_bars hn hw hu hb (fun i v hi hv => ?_)
          rw [look_add kn'] at hv
          split at hv
          · rename_i e; cases hv; have e' : i = (intD a).toNat := by omega
            rw [e']; exact hk
          · exact ag i v hi hv
/-! ### which pair, which turning, which paper is told -/
def heavy (n : Int) (ws ss : List (Int × Int)) (m : Int) (p : Int × Int) : Bool := decide (p.1 ≤ p.2) && decide (2 * m < sumF n ws ss p.1 p.2)
def hpF (n : Int) (ws ss : List (Int × Int)) (ts : List Int) (m : Int) : Option (Int × Int) := (ts.flatMap fun e => ts.map fun f => (e, f)).find? (heavy n ws ss m)
theorem find_grid {α : Type} {p : α × α → Bool} {L1 L2 T1 T2 : List α} {e f : α} (h : p (e, f) = true) (h1 : ∀ a ∈ L1, ∀ b ∈ T1 ++ f :: T2, p (a, b) = false) (h2 : ∀ b ∈ T1, p (e, b) = false) : ((L1 ++ e :: L2).flatMap fun a => (T1 ++ f :: T2).map fun b => (a, b)).find? p = some (e, f) := by
  rw [List.flatMap_append, List.find?_append]
  have z1 : (L1.flatMap fun a => (T1 ++ f :: T2).map fun b => (a, b)).find? p = none := by
    rw [List.find?_eq_none]
    intro q hq
    obtain ⟨a, ha, hq⟩ := List.mem_flatMap.mp hq
    obtain ⟨b, hb, rfl⟩ := List.mem_map.mp hq
    rw [h1 a ha b hb]; decide
  have z2 : (T1.map fun b => (e, b)).find? p = none := by
    rw [List.find?_eq_none]
    intro q hq
    obtain ⟨b, hb, rfl⟩ := List.mem_map.mp hq
    rw [h2 b hb]; decide
  rw [z1, Option.none_or, List.flatMap_cons, List.map_append, List.append_assoc, List.find?_append, z2, Option.none_or, List.map_cons, List.cons_append, List.find?_cons, h]
theorem split_at {α : Type} {l : List α} {i : Nat} {a : α} (h : l[i]? = some a) : l = l.take i ++ a :: l.drop (i + 1) := by
  have hi := (List.getElem?_eq_some_iff.mp h).1
  have e := (List.getElem?_eq_some_iff.mp h).2
  rw [← e, List.getElem_cons_drop, List.take_append_drop]
section
variable {n : Int} {ws ss : List (Int × Int)} {ts : List Int} {m : Int}
theorem hp_none (h : ∀ e ∈ ts, ∀ f ∈ ts, e ≤ f → sumF n ws ss e f ≤ 2 * m) : hpF n ws ss ts m = none := by
  unfold hpF
  rw [List.find?_eq_none]
  intro p hp
  obtain ⟨e, he, hp⟩ := List.mem_flatMap.mp hp
  obtain ⟨f, hf, rfl⟩ := List.mem_map.mp hp
  have := h e he f hf
  unfold heavy
  simp
  exact this
theorem hp_some {i j : Nat} {e f : Int} (he : ts[i]? = some e) (hf : ts[j]? = some f) (hv : e ≤ f) (hs : 2 * m < sumF n ws ss e f) (b1 : ∀ a ∈ ts.take i, ∀ b ∈ ts, a ≤ b → sumF n ws ss a b ≤ 2 * m) (b2 : ∀ b ∈ ts.take j, e ≤ b → sumF n ws ss e b ≤ 2 * m) : hpF n ws ss ts m = some (e, f) := by
  have g : ∀ {a b : Int}, (a ≤ b → sumF n ws ss a b ≤ 2 * m) → heavy n ws ss m (a, b) = false := fun {a b} h => by
    show (decide (a ≤ b) && decide (2 * m < sumF n ws ss a b)) = false
    by_cases c : a ≤ b
    · rw [decide_eq_true c, decide_eq_false (by have := h c; omega)]; rfl
    · rw [decide_eq_false c]; rfl
  have z := find_grid (p := heavy n ws ss m) (L1 := ts.take i) (L2 := ts.drop (i + 1)) (T1 := ts.take j) (T2 := ts.drop (j + 1)) (e := e) (f := f) (by unfold heavy; simp [hv, hs]) (fun a ha b hb => g (b1 a ha b (by rw [← split_at hf] at hb; exact hb))) (fun b hb => g (b2 b hb))
  rw [← split_at he, ← split_at hf] at z
  exact z
end
/-- the turning or the paper that is told where so many ways are left -/
def topF (n : Int) (ws : List (Int × Int)) (ts : List Int) (m : Int) : Nat → List Int → Sum (List Int) Pap
  | 0, us => match hpF n ws (ssOf us) ts m with
    | some p => .inr (.ties p.1 p.2)
    | none => .inl us
  | d + 1, us => match hpF n ws (ssOf us) ts m with
    | some p => .inr (.ties p.1 p.2)
    | none => match topF n ws ts m d (us ++ [0]) with
      | .inl u => .inl u
      | .inr a => match topF n ws ts m d (us ++ [1]) with
        | .inl u => .inl u
        | .inr b => .inr (.cut us.length a b)
def markT (n : Int) (ws : List (Int × Int)) (t : Int) : List Bool := (List.range ws.length).map fun i => onB n (ws.getD i (0, 0)) 0 t
def unlF (n : Int) (ws : List (Int × Int)) : Nat → List Int
  | 0 => []
  | i + 1 => if markT n ws (i : Nat) ∈ (unlF n ws i).map (markT n ws) then unlF n ws i else unlF n ws i ++ [((i : Nat) : Int)]


/-- a comprehension over a list, each turn gives a new thing of which F tells the data -/
theorem lc_dp {σ : L2.St} {vs : List Nat} {g : TG} {te : TE} {H1 : Hp} {QD : Addr → Hp → Prop} {α : Type} {a : Addr} {xs : List V} (S0 : List Addr) (hS : ∀ b ∈ S0, H1 b ≠ none) (hs : SqL K H1 a xs) (ps : List α) (hl : xs.length = ps.length) (hz : ps.length ≤ 50000) (F : α → PyData)
    (step : ∀ (i : Nat) x p H', xs[i]? = some x → ps[i]? = some p → Same H1 H' → ∀ (R : V → Hp → Prop), (∀ y H'', Same H' H'' → (∀ S : List Addr, (∀ b ∈ S, H' b ≠ none) → Dp K (hid S H'') y (F p)) → R y H'') →
      g x (wipe σ vs) H' fun σ2 H2 => wipe σ2 vs = wipe σ vs ∧ te σ2 H2 R)
    (h : ∀ D ys H', H1 D = none → Same H1 H' → H' D = some (.lst ys) → DpAll K (hid (D :: S0) H') ys (ps.map F) → QD D H') (hg : ∀ x σ' H (q q' : L2.St → Hp → Prop), (∀ s H, q s H → q' s H) → g x σ' H q → g x σ' H q') :
    ∃ a', V.ref a = .ref a' ∧ (∃ xs, SqL K H1 a' xs) ∧ ∀ D, H1 D = none → ∃ W : Nat → Nat → Hp → Prop, (∃ m, W 0 m (upd H1 D (.lst []))) ∧ ∀ i m H, W i m H →
      ((Itl K a').stop i H ∧ QD D H) ∨ ((Itl K a').go i H ∧ ∃ Nx : Hp → Prop, (∀ H', Nx H' → ∃ m', m' < m ∧ W (i + 1) m' H') ∧ ∀ x H', (Itl K a').yld i H x H' → g x (wipe σ vs) H' fun σ2 H2 => wipe σ2 vs = wipe σ vs ∧ tYes σ2 H2 fun b H3 =>
        if b = true then te σ2 H3 fun y H4 => ∃ acc, H4 D = some (.lst acc) ∧ acc.length < sizeLine ∧ Nx (upd H4 D (.lst (acc ++ [y]))) else Nx H3) := by
  refine ⟨a, rfl, ⟨xs, hs⟩, fun D nD => lc_list (xs := xs) (fun i H => Same H1 H ∧ ∃ ys, H D = some (.lst ys) ∧ ys.length = i ∧ DpAll K (hid (D :: S0) H) ys ((ps.take i).map F)) ⟨same_new nD, [], upd_same, rfl, .nil⟩ (fun i H _ e => e.1.seq hs) ?_ ?_⟩
  · rintro i x H hx ⟨sm, ys, hD, hly, hys⟩
    have hi : i < xs.length := (List.getElem?_eq_some_iff.mp hx).1
    obtain ⟨p, hp⟩ : ∃ p, ps[i]? = some p := ⟨ps[i]'(by omega), List.getElem?_eq_getElem (by omega)⟩
    refine hg _ _ _ _ _ (fun s2 H2 hh => ⟨hh.1, k_yes (iteT hh.2)⟩) (step i x p H hx hp sm _ (fun y H'' s2 dy => ⟨ys, s2 _ _ hD, szl (by omega), same_mut (sm.trans s2) nD, ys ++ [y], upd_same, by simp [hly], ?_⟩))
    rw [hid_upd (by simp), List.take_add_one, hp, List.map_append]
    refine dpa_app (dpa_same (hid_mono s2) hys) (.cons (dy _ fun b hb => ?_) .nil)
    rcases List.mem_cons.mp hb with e | hb
    · rw [e, hD]; exact fun z => nomatch z
    · intro z
      exact hS b hb (sm.free z)
  · rintro H ⟨sm, ys, hD, hly, hys⟩
    rw [hl, List.take_length] at hys
    exact h D ys H nD sm hD hys
theorem meet_fmC (xs ys : List Int) : 0 < (xs.filterMap fun t => if t ∈ ys then some (V.int t) else none).length ↔ ∃ t, t ∈ xs ∧ t ∈ ys := by
  rw [List.length_pos_iff_exists_mem]
  constructor
  · rintro ⟨v, hv⟩
    obtain ⟨t, h1, h2⟩ := List.mem_filterMap.mp hv
    by_cases c : t ∈ ys
    · exact ⟨t, h1, c⟩
    · rw [if_neg c] at h2; cases h2
  · rintro ⟨t, h1, h2⟩
    exact ⟨.int t, List.mem_filterMap.mpr ⟨t, h1, by rw [if_pos h2]⟩⟩
def pr_have_common (K : PySem.W.Frag) (v0 v1 : V) (H : Hp) (Q : VK) (_ : XK) : Prop := ∃ (a b : Addr) (xs ys : List Int), v0 = .ref a ∧ v1 = .ref b ∧ SqL K H a (xs.map V.int) ∧ SqL K H b (ys.map V.int) ∧ xs.length ≤ 1000 ∧ ∀ H', Same H H' → Q (.bl (commonB xs ys)) H'
def t_have_common (K : PySem.W.Frag) : TS :=
  (tRet (tOp xGt (tCB (rLenX K) (tCons (tLc (iList K (tVar 0)) (gName 2) (tTest (tOp (rIn K false) (tVar 2) (tVar 1))) (tVar 2) [2]) tNil)) (tC (.int 0))))
theorem pure_have_common {v0 v1 : V} {H : Hp} {Q : VK} {E : XK} (h : pr_have_common K v0 v1 H Q E) : t_have_common K ⟨fun _ H' => Q .non H', Q, fun _ _ => False, fun _ _ => False⟩ [some v0, some v1, none] H := by
  obtain ⟨a, b, xs, ys, rfl, rfl, ha, hb, hz, q⟩ := h
  unfold t_have_common
  wtm_at "s"
  refine lc_pure ha xs (by simp) (by omega) (fun t => if t ∈ ys then some (V.int t) else none) ?_ (fun D H1 nD s1 eD => ?_)
  · intro k z p H' hz hp sm R R0 h1 h2
    rw [List.getElem?_map, hp] at hz
    cases hz
    have hb' := sm.seq hb
    wtm_at "s"
    refine k_it (fun w => ?_) (fun w => ?_)
    · wtm_at "s"
      exact h1 _ (by rw [if_pos w])
    · exact h2 (by rw [if_neg w])
  · wtm_at "s"
    have e : decide ((0 : Int) < ((xs.filterMap fun t => if t ∈ ys then some (V.int t) else none).length : Nat)) = commonB xs ys := by
      cases hc : commonB xs ys with
      | true => exact decide_eq_true (by have := (meet_fmC xs ys).mpr (common_iff.mp hc); omega)
      | false => exact decide_eq_false fun z => by
                   have := common_iff.mpr ((meet_fmC xs ys).mp (by omega))
                   rw [hc] at this; cases this
    rw [e]
    exact q H1 s1
abbrev sp_have_common (K : PySem.W.Frag) : Sp := fun vs H Q E => ∃ v0 v1, vs = [v0, v1] ∧ pr_have_common K v0 v1 H Q E
theorem ok_have_common (T : Txt K mg A) : FnOk P w K mg base CX0 1 A.a_have_common A.d_have_common ["one", "other"] (sp_have_common K) := by
  refine T.F_have_common.ok sc_have_common (fun vs H Q E h => by obtain ⟨v0, v1, rfl, _⟩ := h; rfl) (fun cdv A0 outer s H vs Q E hr h => ?_)
  obtain ⟨v0, v1, rfl, h⟩ := h
  exact ⟨t_have_common K, (pss_one (ps_ret (pe_cmpR op_gt (pe_callB q_len (by rfl) T.z_len (by decide +kernel) (pa_cons (pe_lc (own := [("thing", 2)]) (by rfl) sc_have_common.nd (pi_list (pv 0)) (blkOk_by (own := [("thing", 2)]) (N := ["one", "other", "thing"]) (sc := defScope s_have_common) (by decide +kernel)) (fun _ _ _ _ _ => (pg_name (i := 2) sc_have_common.nd rfl (Or.inl rfl))) (fun _ _ _ _ _ => (pts_one (pt_cmpR op_in_seq (pv 2) (pv 1) (by rfl)))) (fun _ _ _ _ _ => (pv 2))) pa_nil)) pe_int (nomark _)))), pure_have_common h⟩


def pr_meetings (K : PySem.W.Frag) (v0 v1 : V) (H : Hp) (Q : VK) (_ : XK) : Prop := ∃ (N : Net) (ws : List (Int × Int)) (S : List Addr), Dp K H v0 N.d ∧ N.ok ∧ Dp K H v1 (dPairs ws) ∧ ws.length ≤ 100 ∧ (∀ w ∈ ws, isWay N w.1 w.2) ∧ (∀ x ∈ S, H x ≠ none) ∧
  ∀ p H', H p = none → Same H H' → Dp K (hid S H') (.ref p) (.list ((meetF N ws).map dInts)) → Q (.ref p) H'
def t_meetings (K : PySem.W.Frag) : TS :=
  (tSeq (tAsg (tLc (iList K (tVar 1)) (gName 5) tYes (tCall (sp_ties_on K) [] E0 (tCons (tVar 0) (tCons (tVar 5) tNil))) [5]) (gName 2))
    (tSeq (tAsg (tLst tNil) (gName 3))
    (tSeq (tFor (iRng1 (tCons (tCB (rLenX K) (tCons (tVar 1) tNil)) tNil)) (gName 4)
      (tDrop (tBM K "list" rAppend (tVar 3) (tCons (tLc (iRng1 (tCons (tCB (rLenX K) (tCons (tVar 1) tNil)) tNil)) (gName 6) (tAnd (tTest (tOp rNe (tVar 6) (tVar 4))) (tB (tCall (sp_have_common K) [] E0 (tCons (tOp (rIxL K) (tVar 2) (tVar 4)) (tCons (tOp (rIxL K) (tVar 2) (tVar 6)) tNil))))) (tVar 6) [6]) tNil))))
    (tRet (tVar 3)))))
theorem pure_meetings {v0 v1 : V} {H : Hp} {Q : VK} {E : XK} (hh : pr_meetings K v0 v1 H Q E) : t_meetings K ⟨fun _ H' => Q .non H', Q, fun _ _ => False, fun _ _ => False⟩ [some v0, some v1, none, none, none, none, none] H := by
  obtain ⟨N, ws, S, d0, ok, d1, hz, hok, hS, q⟩ := hh
  obtain ⟨b, ys, rfl, hb, dys⟩ := dp_list d1
  have ly : ys.length = ws.length := by rw [dpa_len dys, List.length_map]
  have tl60 := (ties_le ok).1
  have fS : ∀ {H1 : Hp} {p : Addr}, Same H H1 → H1 p = none → p ∉ S := fun s np z => hS _ z (s.free np)
  unfold t_meetings
  wtm_at "s"
  refine lc_dp [] (fun x hx => by cases hx) hb ws ly (by omega) (fun w => dInts (tiesF N w)) ?_ (fun tl zs H1 ntl s1 e1 dz => ?_) (fun x σ' H q q' h hh => h _ _ hh)
  · intro i x w H' hx hw sm R g
    obtain ⟨w', c, hw', rfl, hc⟩ := dpairs_get dys hx
    rw [hw] at hw'
    cases hw'
    have wok := hok w (List.mem_of_getElem? hw)
    wtm_at "s"
    refine ⟨_, _, rfl, N, w.1, w.2, dp_same sm d0, dp_of_pair (same_seqT sm hc), ok, wok, fun p ns H2 np s2 e2 tt => ?_⟩
    refine g _ H2 s2 (fun S' hS' => ?_)
    rw [tiesF_of ok wok tt.srt tt.mem] at e2
    exact dp_of_ints (sl (by rw [hid_ne (fun z => hS' p z np)]; exact e2))
  replace dz := dpa_same (hid_same _ _) dz
  have lz : zs.length = ws.length := by rw [dpa_len dz, List.length_map]
  have row : ∀ (k : Nat), k < ws.length → ∃ c, zs[k]? = some (.ref c) ∧ SqL K H1 c ((tiesF N (ws.getD k (0, 0))).map V.int) := fun k hk => by
    obtain ⟨v, hv, dv⟩ := dpa_get2 dz (i := k) (d := dInts (tiesF N (ws.getD k (0, 0)))) (by rw [List.getElem?_map, List.getElem?_eq_getElem hk, List.getD_eq_getElem?_getD, List.getElem?_eq_getElem hk]; rfl)
    obtain ⟨c, rfl, hc⟩ := dp_ints dv
    exact ⟨c, hv, hc⟩
  wtm_at "s"
  refine kL (by simp) (fun fo H2 nfo s2 e2 => ?_)
  have nf0 : H fo = none := s1.free nfo
  wtm_at "s"
  rw [ly, Int.toNat_natCast]
  refine forR (fun i σ' H' => Same H1 H' ∧ ∃ rs k4 k5 k6, σ' = [some v0, some (.ref b), some (.ref tl), some (.ref fo), k4, k5, k6] ∧ H' fo = some (.lst rs) ∧ rs.length = i ∧ DpAll K (hid (fo :: S) H') rs (((List.range i).map (meetRow N ws)).map dInts)) ⟨s2, [], _, _, _, rfl, e2, rfl, .nil⟩ ?_ ?_
  · rintro i σ' H3 hi ⟨s3, rs, k4, k5, k6, rfl, e3, lr, dr⟩
    have s03 := s1.trans s3
    have hb3 := s03.seq hb
    wtm_at "s"
    refine k_tyL (sl e3) ?_
    wtm_at "s"
    rw [ly, Int.toNat_natCast]
    refine lc_growR (by omega) (fun k => if (decide (k ≠ i) && meetB N (ws.getD i (0, 0)) (ws.getD k (0, 0))) = true then some (.int (0 + (k : Nat))) else none) ?_ (fun D H4 nD s4 eD => ?_)
    · intro k H' hk sm R R0 g1 g2
      obtain ⟨c1, hc1, hs1⟩ := row i hi
      obtain ⟨c2, hc2, hs2⟩ := row k hk
      have s1' := s3.trans sm
      have etl := s1' _ _ e1
      wtm_at "s"
      refine k_itn (fun c => ?_) (fun c => ?_)
      · have ck : k ≠ i := fun z => c (by rw [z])
        wtm_at "s"
        refine k_ixL (sl etl) (atI_nat' hc1) ?_
        wtm_at "s"
        refine k_ixL (sl etl) (atI_nat' hc2) ?_
        wtm_at "s"
        refine ⟨_, _, rfl, c1, c2, _, _, rfl, rfl, s1'.seq hs1, s1'.seq hs2, by have := tiesF_len N (ws.getD i (0, 0)); omega, fun H5 s5 => ?_⟩
        have em : commonB (tiesF N (ws.getD i (0, 0))) (tiesF N (ws.getD k (0, 0))) = meetB N (ws.getD i (0, 0)) (ws.getD k (0, 0)) := rfl
        rw [em]
        cases hm : meetB N (ws.getD i (0, 0)) (ws.getD k (0, 0)) with
        | true =>
          wtm_at "s"
          exact g1 _ H5 (by rw [hm, decide_eq_true ck]; rfl) s5
        | false =>
          wtm_at "s"
          exact g2 H5 (by rw [hm, decide_eq_true ck]; rfl) s5
      · have ck : k = i := by omega
        wtm_at "s"
        exact g2 H' (by rw [decide_eq_false (fun z => z ck)]; rfl) (Same.refl _)
    · rw [keepI_fm] at eD
      have eD' : H4 D = some (.lst ((meetRow N ws i).map V.int)) := eD
      have Dfo : D ≠ fo := fun z => by rw [z, e3] at nD; cases nD
      have DS : D ∉ fo :: S := fun z => by
        rcases List.mem_cons.mp z with z | z
        · exact Dfo z
        · exact fS s03 nD z
      wtm_at "s"
      refine k_append (s4 _ _ e3) (by omega) ?_
      refine ⟨same_mut (s3.trans s4) nfo, rs ++ [.ref D], _, _, _, rfl, upd_same, by simp [lr], ?_⟩
      rw [hid_upd (by simp), List.range_succ, List.map_append, List.map_append]
      exact dpa_app (dpa_same (hid_mono s4) dr) (.cons (dp_of_ints (sl (by rw [hid_ne DS]; exact eD'))) .nil)
  · rintro σ' H3 ⟨s3, rs, k4, k5, k6, rfl, e3, lr, dr⟩
    wtm_at "s"
    refine q fo H3 nf0 (s1.trans s3) (.lst (sl ?_) (dpa_same (hid_sub fun x hx => List.mem_cons_of_mem _ hx) dr))
    rw [hid_ne (fS (Same.refl _) nf0)]; exact e3
abbrev sp_meetings (K : PySem.W.Frag) : Sp := fun vs H Q E => ∃ v0 v1, vs = [v0, v1] ∧ pr_meetings K v0 v1 H Q E
theorem ok_meetings (T : Txt K mg A) : FnOk P w K mg base CX0 2 A.a_meetings A.d_meetings ["net", "ways"] (sp_meetings K) := by
  refine T.F_meetings.ok sc_meetings (fun vs H Q E h => by obtain ⟨v0, v1, rfl, _⟩ := h; rfl) (fun cdv A0 outer s H vs Q E hr h => ?_)
  obtain ⟨v0, v1, rfl, h⟩ := h
  exact ⟨t_meetings K, (pss_cons (ps_set (i := 2) sc_meetings.nd rfl (Or.inr rfl) (pe_lc (own := [("way", 5)]) (by rfl) sc_meetings.nd (pi_list (pv 1)) (blkOk_by (own := [("way", 5)]) (N := ["net", "ways", "ties", "found", "one", "way", "k"]) (sc := defScope s_meetings) (by decide +kernel)) (fun _ _ _ _ _ => (pg_name (i := 5) sc_meetings.nd rfl (Or.inl rfl))) (fun _ _ _ _ _ => pts_nil) (fun _ _ _ _ _ => (pe_call (ok_ties_on T) (hr.mono (by decide)) (by rfl) T.g_ties_on T.F_ties_on.kp T.b_ties_on .nil pass0 (pa_cons (pv 0) (pa_cons (pv 5) pa_nil))))))
      (pss_cons (ps_set (i := 3) sc_meetings.nd rfl (Or.inl rfl) (pe_lst pa_nil))
      (pss_cons (ps_for PassesOwn.never rfl (pi_range1 (by rfl) T.z_range (pa_cons (pe_callB q_len (by rfl) T.z_len (by decide +kernel) (pa_cons (pv 1) pa_nil)) pa_nil)) (pg_name (i := 4) sc_meetings.nd rfl (Or.inr rfl))
      (pss_one (ps_expr (pe_bm PySem.F.plainAttrs_list PySem.F.slot_list_append PySem.F.type_list_append mt_append (pv 3) (pa_cons (pe_lc (own := [("k", 6)]) (by rfl) sc_meetings.nd (pi_range1 (by rfl) T.z_range (pa_cons (pe_callB q_len (by rfl) T.z_len (by decide +kernel) (pa_cons (pv 1) pa_nil)) pa_nil)) (blkOk_by (own := [("k", 6)]) (N := ["net", "ways", "ties", "found", "one", "way", "k"]) (sc := defScope s_meetings) (by decide +kernel)) (fun _ _ _ _ _ => (pg_name (i := 6) sc_meetings.nd rfl (Or.inl rfl))) (fun _ _ _ _ _ => (pts_one (PW.pt (pw_and (pt_cmpR op_ne (pv 6) (pv 4) (nomark _)) (pw_and1 (pt_val (pe_call (ok_have_common T) (hr.mono (by decide)) (by rfl) T.g_have_common T.F_have_common.kp T.b_have_common .nil pass0 (pa_cons (pe_ix ix_list (pv 2) (pv 4) (fun _ _ => rfl)) (pa_cons (pe_ix ix_list (pv 2) (pv 6) (fun _ _ => rfl)) pa_nil))))))))) (fun _ _ _ _ _ => (pv 6))) pa_nil)))))
      (pss_one (ps_ret (pv 3)))))), pure_meetings h⟩


/-- no key twice -/
def Uni (gs : List (Int × Int)) : Prop := (gs.map (·.1)).Nodup
theorem look_key {gs : List (Int × Int)} {k : Int} (h : lookS gs k = none) : k ∉ gs.map (·.1) := by
  intro z
  obtain ⟨p, hp, rfl⟩ := List.mem_map.mp z
  unfold lookS at h
  cases c : gs.find? (fun q => decide (q.1 = p.1)) with
  | some q => rw [c] at h; cases h
  | none => exact absurd (decide_eq_true (show p.1 = p.1 from rfl)) (List.find?_eq_none.mp c p hp)
theorem Uni.add {gs : List (Int × Int)} {k u : Int} (h : Uni gs) (hk : lookS gs k = none) : Uni (gs ++ [(k, u)]) := by
  unfold Uni
  rw [List.map_append, List.nodup_append]
  refine ⟨h, by simp, fun a ha b hb e => ?_⟩
  have : b = k := by simpa using hb
  rw [e, this] at ha
  exact look_key hk ha
theorem Uni.nil : Uni [] := List.nodup_nil
theorem Uni.look : ∀ {gs : List (Int × Int)}, Uni gs → ∀ p ∈ gs, lookS gs p.1 = some p.2
  | [], _, p, h => by cases h
  | a :: r, h, p, hp => by
    have h' : a.1 ∉ r.map (·.1) ∧ (r.map (·.1)).Nodup := List.nodup_cons.mp h
    unfold lookS
    rw [List.find?_cons]
    rcases List.mem_cons.mp hp with rfl | hp
    · simp
    · have ne : a.1 ≠ p.1 := fun z => h'.1 (by rw [z]; exact List.mem_map_of_mem hp)
      rw [decide_eq_false ne]
      exact Uni.look h'.2 p hp
theorem Uni.vals {gs : List (Int × Int)} (h : Uni gs) : ∀ kv ∈ dS gs, valV (dS gs) kv.1 = some kv.2 := fun kv hkv => by
  unfold dS at hkv
  obtain ⟨p, hp, rfl⟩ := List.mem_map.mp hkv
  rw [dS_val, h.look p hp]; rfl
theorem dS_snd (gs : List (Int × Int)) : (dS gs).map (·.2) = (gs.map (·.2)).map V.int := by
  unfold dS
  rw [List.map_map, List.map_map]; rfl
def pr_options (K : PySem.W.Frag) (v0 v1 : V) (H : Hp) (Q : VK) (_ : XK) : Prop := ∃ (h : Int) (a : Addr) (gs : List (Int × Int)), v0 = .int h ∧ -1000 ≤ h ∧ h ≤ 100000 ∧ v1 = .ref a ∧ H a = some (.dK (dS gs)) ∧ Uni gs ∧ gs.length ≤ 1000 ∧ ∀ p H', H p = none → Same H H' → H' p = some (.lst ((List.range (optN h gs)).map fun i : Nat => V.int (i : Int))) → Q (.ref p) H'
def t_options (K : PySem.W.Frag) : TS :=
  (tRet (tLstRg (tRg1 (tOp xAdd (tCB rMin2 (tCons (tOp xSub (tVar 0) (tC (.int 1))) (tCons (tLenU K (tLockE (tLc (iKeys (tVar 1)) (gName 2) tYes (tDGet (tVar 1) (tVar 2)) [2]))) tNil))) (tC (.int 1))))))
theorem pure_options {v0 v1 : V} {H : Hp} {Q : VK} {E : XK} (hh : pr_options K v0 v1 H Q E) : t_options K ⟨fun _ H' => Q .non H', Q, fun _ _ => False, fun _ _ => False⟩ [some v0, some v1, none] H := by
  obtain ⟨h, a, gs, rfl, h0, h1, rfl, ha, un, hl, q⟩ := hh
  unfold t_options
  wtm_at "s"
  refine lc_vals ha ⟨rfl, rfl⟩ (fun _ => rfl) (fun _ => rfl) (fun _ => rfl) (by unfold dS; simp; omega) un.vals (fun D H1 nD s1 eD => ?_)
  rw [dS_snd] at eD
  refine ⟨D, _, rfl, sl eD, by simp; omega, ?_⟩
  wtm_at "s"
  have hu := unl_le (gs.map (·.2))
  rw [List.length_map] at hu
  have e : (if ((unl (gs.map (·.2)) : Nat) : Int) < h - 1 then ((unl (gs.map (·.2)) : Nat) : Int) else h - 1) = min (h - 1) ((unl (gs.map (·.2)) : Nat) : Int) := by split <;> omega
  rw [e]
  refine kR (by unfold RgOk; omega) (fun p H2 np s2 e2 => ?_)
  refine q p H2 (s1.free np) (s1.trans s2) ?_
  rw [e2]
  unfold rgV optN
  rw [Int.sub_zero]
  simp only [Int.zero_add]
abbrev sp_options (K : PySem.W.Frag) : Sp := fun vs H Q E => ∃ v0 v1, vs = [v0, v1] ∧ pr_options K v0 v1 H Q E
theorem ok_options (T : Txt K mg A) : FnOk P w K mg base CX0 1 A.a_options A.d_options ["h", "given"] (sp_options K) := by
  refine T.F_options.ok sc_options (fun vs H Q E h => by obtain ⟨v0, v1, rfl, _⟩ := h; rfl) (fun cdv A0 outer s H vs Q E hr h => ?_)
  obtain ⟨v0, v1, rfl, h⟩ := h
  exact ⟨t_options K, (pss_one (ps_ret (pe_listRg (by rfl) (by rfl) T.z_list (prg_1 (by rfl) T.z_range (pe_op op_add (pe_callB (q_min2 (by rfl)) (by rfl) T.z_min (by decide +kernel) (pa_cons (pe_op op_sub (pv 0) pe_int) (pa_cons (pe_lenU (by rfl) (by rfl) T.z_len (by rfl) T.z_set (pe_lock (pe_lc (own := [("k", 2)]) (by rfl) sc_options.nd (pi_keys (pv 1)) (blkOk_by (own := [("k", 2)]) (N := ["h", "given", "k"]) (sc := defScope s_options) (by decide +kernel)) (fun _ _ _ _ _ => (pg_name (i := 2) sc_options.nd rfl (Or.inl rfl))) (fun _ _ _ _ _ => pts_nil) (fun _ _ _ _ _ => (pe_dget (Nat.lt_of_le_of_lt (Nat.add_le_add_left (by decide) _) hr.units) (pv 1) (pv 2) (fun _ _ => rfl)))))) pa_nil))) pe_int))))), pure_options h⟩
theorem inV_bools : ∀ bs : List Bool, inV (.bl true) (bs.map V.bl) = bs.any id
  | [] => rfl
  | b :: r => by
    show (eqV (.bl b) (.bl true) || inV (.bl true) (r.map V.bl)) = (id b || r.any id)
    rw [inV_bools r]
    cases b <;> rfl
theorem flat_bools : ∀ bs : List Bool, (bs.map V.bl).all flatV = true
  | [] => rfl
  | _ :: r => by show (true && (r.map V.bl).all flatV) = true; rw [flat_bools r]; rfl
theorem dp_row {K : PySem.W.Frag} {H : Hp} {a : Addr} {xs : List V} {M : List (List Int)} (hs : SqL K H a xs) (dx : DpAll K H xs (M.map dInts)) {k : Nat} (hk : k < M.length) : ∃ c, xs[k]? = some (.ref c) ∧ SqL K H c ((M.getD k []).map V.int) := by
  obtain ⟨v, hv, dv⟩ := dpa_get2 dx (i := k) (d := dInts M[k]) (by rw [List.getElem?_map, List.getElem?_eq_getElem hk]; rfl)
  obtain ⟨c, rfl, hc⟩ := dp_ints dv
  exact ⟨c, hv, by rw [List.getD_eq_getElem?_getD, List.getElem?_eq_getElem hk]; exact hc⟩
def pr_is_stuck (K : PySem.W.Frag) (v0 v1 v2 v3 : V) (H : Hp) (Q : VK) (_ : XK) : Prop := ∃ (M : List (List Int)) (a : Addr) (gs : List (Int × Int)) (k c : Int), Dp K H v0 (.list (M.map dInts)) ∧ (∀ r ∈ M, r.length ≤ 1000) ∧ v1 = .ref a ∧ H a = some (.dK (dS gs)) ∧ v2 = .int k ∧ 0 ≤ k ∧ k < M.length ∧ v3 = .int c ∧ ∀ H', Same H H' → Q (.bl (stuckB M gs k c)) H'
def t_is_stuck (K : PySem.W.Frag) : TS :=
  (tRet (tOp (rIn K false) (tC (.bl true)) (tLc (iList K (tOp (rIxL K) (tVar 0) (tVar 2))) (gName 4) tYes (tOp rEq (tDGet1 (tVar 1) (tVar 4)) (tVar 3)) [4])))
theorem pure_is_stuck {v0 v1 v2 v3 : V} {H : Hp} {Q : VK} {E : XK} (hh : pr_is_stuck K v0 v1 v2 v3 H Q E) : t_is_stuck K ⟨fun _ H' => Q .non H', Q, fun _ _ => False, fun _ _ => False⟩ [some v0, some v1, some v2, some v3, none] H := by
  obtain ⟨M, a, gs, k, c, d0, hr, rfl, ha, rfl, k0, k1, rfl, q⟩ := hh
  obtain ⟨b, xs, rfl, hb, dx⟩ := dp_list d0
  obtain ⟨rw', hrw, hrs⟩ := dp_row hb dx (show k.toNat < M.length by omega)
  have hlr : (M.getD k.toNat []).length ≤ 1000 := by
    rw [List.getD_eq_getElem?_getD, List.getElem?_eq_getElem (by omega)]
    exact hr _ (List.getElem_mem _)
  unfold t_is_stuck
  wtm_at "s"
  refine k_ixL hb (show atI xs k = some (.ref rw') by rw [show k = ((k.toNat : Nat) : Int) by omega]; exact atI_nat hrw) ?_
  wtm_at "s"
  refine lc_pure hrs (M.getD k.toNat []) (by simp) (by omega) (fun o => some (.bl (decide (lookS gs o = some c)))) ?_ (fun D H1 nD s1 eD => ?_)
  · intro i x o H' hx ho sm R R0 g1 g2
    rw [List.getElem?_map, ho] at hx
    cases hx
    wtm_at "s"
    refine k_aD (sm _ _ ha) ?_
    wtm_at "s"
    refine k_gD1N (sm _ _ ha) ?_
    rw [dS_val]
    cases hk : lookS gs o with
    | none =>
      simp only [Option.map_none, Option.getD_none]
      refine k_var rfl ⟨rfl, ?_⟩
      exact g1 _ (by rw [hk]; rfl)
    | some u =>
      simp only [Option.map_some, Option.getD_some]
      refine k_var rfl (k_eqI ?_)
      refine g1 _ ?_
      rw [hk]
      by_cases e : u = c
      · rw [decide_eq_true e, decide_eq_true (by rw [e])]
      · rw [decide_eq_false e, decide_eq_false (fun z => e (Option.some.inj z))]
  · have ee : (M.getD k.toNat []).filterMap (fun o => some (V.bl (decide (lookS gs o = some c)))) = ((M.getD k.toNat []).map fun o => decide (lookS gs o = some c)).map V.bl := by
      rw [fm_map, List.map_map]; rfl
    rw [ee] at eD
    refine ⟨D, _, rfl, .inl (sl eD), rfl, flat_bools _, ?_⟩
    rw [if_neg (by decide), inV_bools]
    have es : (((M.getD k.toNat []).map fun o => decide (lookS gs o = some c)).any id) = stuckB M gs k c := by
      unfold stuckB
      rw [List.any_map]; rfl
    rw [es]
    exact q H1 s1
abbrev sp_is_stuck (K : PySem.W.Frag) : Sp := fun vs H Q E => ∃ v0 v1 v2 v3, vs = [v0, v1, v2, v3] ∧ pr_is_stuck K v0 v1 v2 v3 H Q E
theorem ok_is_stuck (T : Txt K mg A) : FnOk P w K mg base CX0 1 A.a_is_stuck A.d_is_stuck ["meets", "given", "k", "hue"] (sp_is_stuck K) := by
  refine T.F_is_stuck.ok sc_is_stuck (fun vs H Q E h => by obtain ⟨v0, v1, v2, v3, rfl, _⟩ := h; rfl) (fun cdv A0 outer s H vs Q E hr h => ?_)
  obtain ⟨v0, v1, v2, v3, rfl, h⟩ := h
  exact ⟨t_is_stuck K, (pss_one (ps_ret (pe_cmpR op_in_seq pe_bl (pe_lc (own := [("other", 4)]) (by rfl) sc_is_stuck.nd (pi_list (pe_ix ix_list (pv 0) (pv 2) (fun _ _ => rfl))) (blkOk_by (own := [("other", 4)]) (N := ["meets", "given", "k", "hue", "other"]) (sc := defScope s_is_stuck) (by decide +kernel)) (fun _ _ _ _ _ => (pg_name (i := 4) sc_is_stuck.nd rfl (Or.inl rfl))) (fun _ _ _ _ _ => pts_nil) (fun _ _ _ _ _ => (pe_cmpR op_eq (pe_dget1 (Nat.lt_of_le_of_lt (Nat.add_le_add_left (by decide) _) hr.units) (pv 1) (pv 4) ⟨rfl, rfl, rfl, rfl⟩) (pv 3) (nomark _)))) (by rfl)))), pure_is_stuck h⟩
def pr_with_hue (K : PySem.W.Frag) (v0 v1 v2 : V) (H : Hp) (Q : VK) (_ : XK) : Prop := ∃ (a : Addr) (ss : List (Int × Int)) (k u : Int), v0 = .ref a ∧ v1 = .int k ∧ v2 = .int u ∧ H a = some (.dK (dS ss)) ∧ lookS ss k = none ∧ ss.length ≤ 1000 ∧
  ∀ p H', H p = none → Same H H' → H' p = some (.dK (dS (ss ++ [(k, u)]))) → Q (.ref p) H'
def t_with_hue (K : PySem.W.Frag) : TS :=
  (tSeq (tAsg (tCB rDictD (tCons (tVar 0) tNil)) (gName 3))
    (tSeq (sDPut (tVar 3) (tVar 1) (tVar 2))
    (tRet (tVar 3))))
theorem pure_with_hue {v0 v1 v2 : V} {H : Hp} {Q : VK} {E : XK} (hh : pr_with_hue K v0 v1 v2 H Q E) : t_with_hue K ⟨fun _ H' => Q .non H', Q, fun _ _ => False, fun _ _ => False⟩ [some v0, some v1, some v2, none] H := by
  obtain ⟨a, ss, k, u, rfl, rfl, rfl, ha, hk, hl, q⟩ := hh
  unfold t_with_hue
  wtm_at "s"
  refine k_dictD ha (fun p H1 np s1 e1 => ?_)
  wtm_at "s"
  refine k_pD e1 (by unfold dS; simp; omega) ?_
  wtm_at "s"
  rw [dS_put hk]
  exact q p _ np (same_mut s1 np) upd_same
abbrev sp_with_hue (K : PySem.W.Frag) : Sp := fun vs H Q E => ∃ v0 v1 v2, vs = [v0, v1, v2] ∧ pr_with_hue K v0 v1 v2 H Q E
theorem ok_with_hue (T : Txt K mg A) : FnOk P w K mg base CX0 1 A.a_with_hue A.d_with_hue ["given", "k", "hue"] (sp_with_hue K) := by
  refine T.F_with_hue.ok sc_with_hue (fun vs H Q E h => by obtain ⟨v0, v1, v2, rfl, _⟩ := h; rfl) (fun cdv A0 outer s H vs Q E hr h => ?_)
  obtain ⟨v0, v1, v2, rfl, h⟩ := h
  exact ⟨t_with_hue K, (pss_cons (ps_set (i := 3) sc_with_hue.nd rfl (Or.inl rfl) (pe_callTy q_dictD (by rfl) T.z_dict (by decide +kernel) (pa_cons (pv 0) pa_nil)))
      (pss_cons (ps_dput (Nat.lt_of_le_of_lt (Nat.add_le_add_left (by decide) _) hr.units) (pv 3) (pv 1) (pv 2) (by rfl))
      (pss_one (ps_ret (pv 3))))), pure_with_hue h⟩
def pr_look_few (K : PySem.W.Frag) (v0 v1 v2 : V) (H : Hp) (Q : VK) (_ : XK) : Prop := ∃ (N : Net) (ws : List (Int × Int)) (m : Int), Dp K H v0 N.d ∧ N.ok ∧ Dp K H v1 (dPairs ws) ∧ ws.length ≤ 10000 ∧ (∀ w ∈ ws, isWay N w.1 w.2) ∧ v2 = .int m ∧ (ws.length : Int) ≤ m ∧ Q .non H
def t_look_few (K : PySem.W.Frag) : TS :=
  (tSeq (tDrop (tCall (sp_look_ways K) [] E0 (tCons (tVar 0) (tCons (tVar 1) tNil))))
    (tIfS (tTest (tOp xGt (tCB (rLenX K) (tCons (tVar 1) tNil)) (tVar 2))) tNever tNext))
theorem pure_look_few {v0 v1 v2 : V} {H : Hp} {Q : VK} {E : XK} (h : pr_look_few K v0 v1 v2 H Q E) : t_look_few K ⟨fun _ H' => Q .non H', Q, fun _ _ => False, fun _ _ => False⟩ [some v0, some v1, some v2] H := by
  obtain ⟨N, ws, m, hd, ok, hw, hz, hok, rfl, hm, q⟩ := h
  obtain ⟨b, ys, rfl, hb, dys⟩ := dp_list hw
  have ly : ys.length = ws.length := by rw [dpa_len dys, List.length_map]
  unfold t_look_few
  wtm_at "s"
  refine ⟨_, _, rfl, N, ws, hd, ok, hw, hz, hok, ?_⟩
  wtm_at "s"
  exact q
abbrev sp_look_few (K : PySem.W.Frag) : Sp := fun vs H Q E => ∃ v0 v1 v2, vs = [v0, v1, v2] ∧ pr_look_few K v0 v1 v2 H Q E
theorem ok_look_few (T : Txt K mg A) : FnOk P w K mg base CX0 5 A.a_look_few A.d_look_few ["net", "ways", "most"] (sp_look_few K) := by
  refine T.F_look_few.ok sc_look_few (fun vs H Q E h => by obtain ⟨v0, v1, v2, rfl, _⟩ := h; rfl) (fun cdv A0 outer s H vs Q E hr h => ?_)
  obtain ⟨v0, v1, v2, rfl, h⟩ := h
  exact ⟨t_look_few K, (pss_cons (ps_expr (pe_call (ok_look_ways T) (hr.mono (by decide)) (by rfl) T.g_look_ways T.F_look_ways.kp T.b_look_ways .nil pass0 (pa_cons (pv 0) (pa_cons (pv 1) pa_nil))))
      (pss_one (ps_if (pt_cmpR op_gt (pe_callB q_len (by rfl) T.z_len (by decide +kernel) (pa_cons (pv 1) pa_nil)) (pv 2) (nomark _)) (pss_one ps_never) pss_nil))), pure_look_few h⟩
def pr_look_number (K : PySem.W.Frag) (v0 : V) (H : Hp) (Q : VK) (_ : XK) : Prop := ∃ m : Int, v0 = .int m ∧ 0 ≤ m ∧ Q .non H
def t_look_number (K : PySem.W.Frag) : TS :=
  (tIfS (tTest (tOp xLt (tVar 0) (tC (.int 0)))) tNever tNext)
theorem pure_look_number {v0 : V} {H : Hp} {Q : VK} {E : XK} (h : pr_look_number K v0 H Q E) : t_look_number K ⟨fun _ H' => Q .non H', Q, fun _ _ => False, fun _ _ => False⟩ [some v0] H := by
  obtain ⟨m, rfl, m0, q⟩ := h
  unfold t_look_number
  wtm_at "s"
  exact q
abbrev sp_look_number (K : PySem.W.Frag) : Sp := fun vs H Q E => ∃ v0, vs = [v0] ∧ pr_look_number K v0 H Q E
theorem ok_look_number (T : Txt K mg A) : FnOk P w K mg base CX0 1 A.a_look_number A.d_look_number ["number"] (sp_look_number K) := by
  refine T.F_look_number.ok sc_look_number (fun vs H Q E h => by obtain ⟨v0, rfl, _⟩ := h; rfl) (fun cdv A0 outer s H vs Q E hr h => ?_)
  obtain ⟨v0, rfl, h⟩ := h
  exact ⟨t_look_number K, (pss_one (ps_if (pt_cmpR op_lt (pv 0) pe_int (nomark _)) (pss_one ps_never) pss_nil)), pure_look_number h⟩


theorem can_mem : ∀ {ds : List PyData}, PyData.canLayAll0 ds = true → ∀ d ∈ ds, d.canLay0 = true
  | [], _, d, h => by cases h
  | a :: r, h, d, hd => by
    have h' : (a.canLay0 && PyData.canLayAll0 r) = true := h
    rw [Bool.and_eq_true] at h'
    rcases List.mem_cons.mp hd with rfl | hd
    · exact h'.1
    · exact can_mem h'.2 d hd
theorem depth_mem : ∀ {ds : List PyData}, ∀ d ∈ ds, d.depth ≤ PyData.depthAll ds
  | [], d, h => by cases h
  | a :: r, d, hd => by
    show d.depth ≤ max a.depth (PyData.depthAll r)
    rcases List.mem_cons.mp hd with rfl | hd
    · omega
    · have := depth_mem (ds := r) d hd; omega
theorem sh_list_mem {n : Nat} {ds : List PyData} (h : Sh n (.list ds)) : ∀ d ∈ ds, Sh n d := fun d hd => ⟨can_mem h.1 d hd, by
  have h2 : PyData.depthAll ds + 1 ≤ n := h.2
  have := depth_mem (ds := ds) d hd; omega⟩
theorem sh_tup_mem {n : Nat} {ds : List PyData} (h : Sh n (.tuple ds)) : ∀ d ∈ ds, Sh n d := fun d hd => ⟨can_mem h.1 d hd, by
  have h2 : PyData.depthAll ds + 1 ≤ n := h.2
  have := depth_mem (ds := ds) d hd; omega⟩
theorem dpa2 {K : PySem.W.Frag} {H : Hp} {xs : List V} {ds : List PyData} (h : DpAll K H xs ds) (hl : ds.length = 2) : ∃ x y a b, xs = [x, y] ∧ ds = [a, b] ∧ Dp K H x a ∧ Dp K H y b := by
  match ds, hl with
  | [a, b], _ =>
    cases h with | cons h1 h => cases h with | cons h2 h =>
      cases h
      exact ⟨_, _, _, _, rfl, rfl, h1, h2⟩
theorem eqv_emp (ds : List PyData) : PyData.eqv (.tuple ds) (.tuple []) = isEmp (.tuple ds) := by
  cases ds with
  | nil => rfl
  | cons a r => rfl
theorem all_take {p : Nat → Bool} {n : Nat} (h : ∀ i, i < n → p i = true) : (List.range n).all p = true := List.all_eq_true.mpr fun i hi => h i (List.mem_range.mp hi)
theorem all_not {p : Nat → Bool} {n i : Nat} (hi : i < n) (h : p i = false) : (List.range n).all p = false := by
  cases c : (List.range n).all p with
  | false => rfl
  | true => rw [List.all_eq_true.mp c i (List.mem_range.mpr hi)] at h; cases h
def pr_is_right (K : PySem.W.Frag) (d : Nat) (v0 v1 v2 v3 : V) (H : Hp) (Q : VK) (_ : XK) : Prop := ∃ (M : List (List Int)) (h : Int) (a : Addr) (gs : List (Int × Int)) (D : PyData), Dp K H v0 (.list (M.map dInts)) ∧ M.length ≤ 1000 ∧ (∀ r ∈ M, r.length ≤ 1000) ∧ v1 = .int h ∧ -1000 ≤ h ∧ h ≤ 100000 ∧ v2 = .ref a ∧ H a = some (.dK (dS gs)) ∧ Uni gs ∧ gs.length + d ≤ 900 ∧ frN M.length gs < d ∧ Dp K H v3 D ∧ Sh 60 D ∧
  ∀ H', Same H H' → Q (.bl (caseJ M h d gs D)) H'
def spd_is_right (K : PySem.W.Frag) : Nat → Sp
  | 0 => fun _ _ _ _ => False
  | d + 1 => fun vs H Q E => ∃ v0 v1 v2 v3, vs = [v0, v1, v2, v3] ∧ pr_is_right K d v0 v1 v2 v3 H Q E
def t_is_right (K : PySem.W.Frag) (sp : Sp) : TS :=
  (tSeq (tIfS (tOr (tNot (tB (tCB (rIsi K) (tCons (tVar 3) (tCons (tC (.ty "tuple")) tNil))))) (tOr (tTest (tOp rNe (tCB (rLenX K) (tCons (tVar 3) tNil)) (tC (.int 2)))) (tOr (tNot (tB (tCall (sp_is_whole K) [] E0 (tCons (tOp (rIxT K) (tVar 3) (tC (.int 0))) tNil)))) (tNot (tB (tCB (rIsi K) (tCons (tOp (rIxT K) (tVar 3) (tC (.int 1))) (tCons (tC (.ty "list")) tNil)))))))) (tRet (tC (.bl false))) tNext)
    (tSeq (tAsg (tVar 3) (gTup K 2 (gCons (gName 4) (gCons (gName 5) gNil))))
    (tSeq (tIfS (tOr (tTest (tOp xLt (tVar 4) (tC (.int 0)))) (tOr (tTest (tOp xGe (tVar 4) (tCB (rLenX K) (tCons (tVar 0) tNil)))) (tOr (tB (tDIn (tVar 4) (tVar 2))) (tTest (tOp rNe (tCB (rLenX K) (tCons (tVar 5) tNil)) (tCB (rLenX K) (tCons (tCall (sp_options K) [] E0 (tCons (tVar 1) (tCons (tVar 2) tNil))) tNil))))))) (tRet (tC (.bl false))) tNext)
    (tSeq (tFor (iEnum K (tCons (tVar 5) tNil)) (gTup K 2 (gCons (gName 6) (gCons (gName 7) gNil)))
      (tIfS (tB (tCall (sp_is_stuck K) [] E0 (tCons (tVar 0) (tCons (tVar 2) (tCons (tVar 4) (tCons (tVar 6) tNil)))))) (tIfS (tOr (tNot (tB (tCB (rIsi K) (tCons (tVar 7) (tCons (tC (.ty "tuple")) tNil))))) (tTest (tOp (rNeD K) (tVar 7) (tTup tNil)))) (tRet (tC (.bl false))) tNext) (tIfS (tNot (tB (tCall sp [] E0 (tCons (tVar 0) (tCons (tVar 1) (tCons (tCall (sp_with_hue K) [] E0 (tCons (tVar 2) (tCons (tVar 4) (tCons (tVar 6) tNil)))) (tCons (tVar 7) tNil))))))) (tRet (tC (.bl false))) tNext)))
    (tRet (tC (.bl true)))))))
theorem pure_is_right {d : Nat} {v0 v1 v2 v3 : V} {H : Hp} {Q : VK} {E : XK} (hh : pr_is_right K d v0 v1 v2 v3 H Q E) : t_is_right K (spd_is_right K d) ⟨fun _ H' => Q .non H', Q, fun _ _ => False, fun _ _ => False⟩ [some v0, some v1, some v2, some v3, none, none, none, none] H := by
  obtain ⟨M, h, a, gs, D, d0, hm, hr, rfl, h0, h1, rfl, ha, un, sd, hd, dD, shD, q⟩ := hh
  obtain ⟨b, ms, rfl, hb, dms⟩ := dp_list d0
  have lms : ms.length = M.length := by rw [dpa_len dms, List.length_map]
  obtain ⟨d, rfl⟩ : ∃ d', d = d' + 1 := ⟨d - 1, by omega⟩
  have q0 := q H (Same.refl _)
  unfold t_is_right
  wtm_at "s"
  refine k_isiTupD dD ?_
  rcases (bcases (isD "tuple" D)).symm with c1 | c1
  · rw [c1]
    rw [caseJ_not c1] at q0
    wtm_at "s"
    exact q0
  obtain ⟨ds, rfl⟩ := isD_tup c1
  rw [c1]
  obtain ⟨p, xs, rfl, hp, dx⟩ := dp_tup dD
  wtm_at "s"
  refine k_lenT hp ?_
  wtm_at "s"
  refine k_itn (fun c2 => ?_) (fun c2 => ?_)
  · rw [caseJ_len (by have := dpa_len dx; omega)] at q0
    wtm_at "s"
    exact q0
  obtain ⟨x, y, da, db, rfl, rfl, hx, hy⟩ := dpa2 dx (by have := dpa_len dx; omega)
  have shb : Sh 60 db := sh_tup_mem shD db (by simp)
  clear dx c1 c2
  wtm_at "s"
  refine ⟨_, rfl, da, hx, ?_⟩
  have nof : ∀ cs : List PyData, db = .list cs → (wholeD da && decide (0 ≤ intD da) && decide (intD da < M.length) && (lookS gs (intD da)).isNone && decide (cs.length = optN h gs)) = false → ∀ H', Same H H' → Q (.bl false) H' := fun cs e hf H' s => by
    have := q H' s
    rw [e] at this
    unfold caseJ at this
    rwa [hf, Bool.false_and] at this
  rcases (bcases (isD "list" db)).symm with cl | cl
  · -- no list of children
    have q1 := q0
    rw [caseJ_list cl] at q1
    rcases (bcases (wholeD da)).symm with c2 | c2
    · rw [c2]
      wtm_at "s"
      exact q1
    · rw [c2]
      wtm_at "s"
      refine k_isiListD hy ?_
      rw [cl]
      wtm_at "s"
      exact q1
  obtain ⟨cs, rfl⟩ := isD_list cl
  obtain ⟨cl', zs, rfl, hcl, dzs⟩ := dp_list hy
  have lzs : zs.length = cs.length := dpa_len dzs
  rcases (bcases (wholeD da)).symm with c2 | c2
  · rw [c2]
    wtm_at "s"
    exact nof cs rfl (by rw [c2]; rfl) H (Same.refl _)
  obtain rfl := dp_whole hx c2
  rw [c2]
  wtm_at "s"
  refine k_it (fun c3 => ?_) (fun c3 => ?_)
  · wtm_at "s"
    exact nof cs rfl (by rw [decide_eq_false (by omega : ¬ 0 ≤ intD da)]; simp) H (Same.refl _)
  wtm_at "s"
  refine k_it (fun c4 => ?_) (fun c4 => ?_)
  · wtm_at "s"
    exact nof cs rfl (by rw [decide_eq_false (by omega : ¬ intD da < M.length)]; simp) H (Same.refl _)
  wtm_at "s"
  refine k_iD ha ?_
  rw [dS_val]
  cases hk : lookS gs (intD da) with
  | some u =>
    simp only [Option.map_some, Option.isSome_some, Bool.false_eq_true, if_false]
    wtm_at "s"
    exact nof cs rfl (by rw [hk]; simp) H (Same.refl _)
  | none =>
    simp only [Option.map_none, Option.isSome_none, Bool.false_eq_true, if_false]
    have k0 : 0 ≤ intD da := by omega
    have k1 : intD da < M.length := by omega
    wtm_at "s"
    refine ⟨_, _, rfl, h, a, gs, rfl, h0, h1, rfl, ha, un, by omega, fun ol H1 nol s1 e1 => ?_⟩
    wtm_at "s"
    rw [List.length_map, List.length_range, lzs]
    refine k_itn (fun c5 => ?_) (fun c5 => ?_)
    · wtm_at "s"
      exact nof cs rfl (by rw [decide_eq_false (by omega : ¬ cs.length = optN h gs)]; simp) H1 s1
    have frl := fun u => frN_lt (u := u) k0 k1 hk
    let P : Nat → Bool := fun i => if stuckB M gs (intD da) (i : Int) then isEmp (cs.getD i .none) else caseJ M h d (gs ++ [(intD da, (i : Int))]) (cs.getD i .none)
    have q2 : ∀ H', Same H H' → Q (.bl ((List.range cs.length).all P)) H' := fun H' s => by
      have := q H' s
      unfold caseJ at this
      rw [c2, decide_eq_true k0, decide_eq_true k1, hk, decide_eq_true (by omega : cs.length = optN h gs)] at this
      exact this
    clear q q0 nof
    wtm_at "s"
    refine forE (s1.seq hcl) (fun i σ' H' => Same H H' ∧ (∃ k6 k7, σ' = [some (.ref b), some (.int h), some (.ref a), some (.ref p), some (.int (intD da)), some (.ref cl'), k6, k7]) ∧ ∀ j, j < i → P j = true) ⟨s1, ⟨_, _, rfl⟩, fun j hj => by omega⟩ (fun i σ' H' z => z.1.seq hcl) ?_ ?_
    · rintro i z σ' H2 T H3 hz ⟨s2, ⟨k6, k7, rfl⟩, ih⟩ nT s3 e3
      have hi : i < cs.length := by have := (List.getElem?_eq_some_iff.mp hz).1; omega
      have s03 := s2.trans s3
      obtain ⟨dc, hdc, dz⟩ := dpa_get dzs hz
      have gc : cs.getD i .none = dc := by rw [List.getD_eq_getElem?_getD, hdc]; rfl
      have shc' : Sh 60 dc := sh_list_mem shb dc (List.mem_of_getElem? hdc)
      have no : P i = false → ∀ H', Same H H' → Q (.bl false) H' := fun hp' H' s => by
        have := q2 H' s
        rwa [all_not hi hp'] at this
      have goon : P i = true → ∀ j, j < i + 1 → P j = true := fun hp' j hj => by
        by_cases z : j = i
        · rw [z]; exact hp'
        · exact ih j (by omega)
      wtm_at "s"
      refine ⟨_, _, _, _, rfl, M, a, gs, intD da, (i : Int), dp_same s03 d0, hr, rfl, s03 _ _ ha, rfl, k0, k1, rfl, fun H4 s4 => ?_⟩
      have s04 := s03.trans s4
      cases st : stuckB M gs (intD da) (i : Int) with
      | true =>
        have pi : P i = isEmp dc := by show (if stuckB M gs (intD da) (i : Int) then isEmp (cs.getD i .none) else _) = _; rw [st, gc]; rfl
        wtm_at "s"
        refine k_isiTupD (dp_same s04 dz) ?_
        rcases (bcases (isD "tuple" dc)).symm with c6 | c6
        · rw [c6]
          wtm_at "s"
          refine no ?_ H4 s04
          rw [pi]
          cases dc <;> first | rfl | (simp [isD, tyD] at c6)
        · obtain ⟨es, rfl⟩ := isD_tup c6
          rw [c6]
          wtm_at "s"
          refine kT (by simp) (fun t5 H5 nt5 s5 e5 => ?_)
          refine k_neD (n := 60) (dp_same (s04.trans s5) dz) (.tup (stp e5) .nil) shc' ((sh_tup (n := 0) fun d hd => by cases hd).mono (by decide)) (by decide) ?_
          rw [eqv_emp]
          rcases (bcases (isEmp (.tuple es))).symm with c7 | c7
          · rw [c7]
            wtm_at "s"
            exact no (by rw [pi, c7]) H5 (s04.trans s5)
          · rw [c7]
            wtm_at "s"
            exact ⟨s04.trans s5, ⟨_, _, rfl⟩, goon (by rw [pi, c7])⟩
      | false =>
        have pi : P i = caseJ M h d (gs ++ [(intD da, (i : Int))]) dc := by show (if stuckB M gs (intD da) (i : Int) then _ else caseJ M h d (gs ++ [(intD da, (i : Int))]) (cs.getD i .none)) = _; rw [st, gc]; rfl
        wtm_at "s"
        refine ⟨_, _, _, rfl, a, gs, intD da, (i : Int), rfl, rfl, rfl, s04 _ _ ha, hk, by omega, fun p5 H5 np5 s5 e5 => ?_⟩
        have s05 := s04.trans s5
        wtm_at "s"
        refine ⟨_, _, _, _, rfl, M, h, p5, gs ++ [(intD da, (i : Int))], dc, dp_same s05 d0, hm, hr, rfl, h0, h1, rfl, e5, un.add hk, by simp; omega, by have := frl (i : Int); omega, dp_same s05 dz, shc', fun H6 s6 => ?_⟩
        have s06 := s05.trans s6
        rcases (bcases (caseJ M h d (gs ++ [(intD da, (i : Int))]) dc)).symm with c7 | c7
        · rw [c7]
          wtm_at "s"
          exact no (by rw [pi, c7]) H6 s06
        · rw [c7]
          wtm_at "s"
          exact ⟨s06, ⟨_, _, rfl⟩, goon (by rw [pi, c7])⟩
    · rintro σ' H2 ⟨s2, ⟨k6, k7, rfl⟩, ih⟩
      have := q2 H2 s2
      rw [all_take (fun i hi => ih i (by omega))] at this
      wtm_at "s"
      exact this
theorem okd_is_right (T : Txt K mg A) : ∀ d : Nat, FnOk P w K mg base CX0 (2 + d) A.a_is_right A.d_is_right ["meets", "h", "given", "case"] (spd_is_right K d)
  | 0 => T.F_is_right.ok sc_is_right (fun vs H Q E h => False.elim h) (fun cdv A0 outer s H vs Q E hr h => False.elim h)
  | d + 1 => by
    refine T.F_is_right.ok sc_is_right (fun vs H Q E h => by obtain ⟨v0, v1, v2, v3, rfl, _⟩ := h; rfl) (fun cdv A0 outer s H vs Q E hr h => ?_)
    obtain ⟨v0, v1, v2, v3, rfl, h⟩ := h
    exact ⟨t_is_right K (spd_is_right K d), (pss_cons (ps_if (PW.pt (pw_or (pt_not (pt_val (pe_callB q_isi (by rfl) T.z_isinstance (by decide +kernel) (pa_cons (pv 3) (pa_cons (pe_bltn (v := .ty "tuple") (by rfl) T.z_tuple (by decide +kernel) rfl) pa_nil))))) (pw_or (pt_cmpR op_ne (pe_callB q_len (by rfl) T.z_len (by decide +kernel) (pa_cons (pv 3) pa_nil)) pe_int (nomark _)) (pw_or (pt_not (pt_val (pe_call (ok_is_whole T) (hr.mono (by first | decide | omega | (simp only [Nat.add_eq]; omega))) (by rfl) T.g_is_whole T.F_is_whole.kp T.b_is_whole .nil pass0 (pa_cons (pe_ix ix_tup (pv 3) pe_int (fun _ _ => rfl)) pa_nil)))) (pw_or1 (pt_not (pt_val (pe_callB q_isi (by rfl) T.z_isinstance (by decide +kernel) (pa_cons (pe_ix ix_tup (pv 3) pe_int (fun _ _ => rfl)) (pa_cons (pe_bltn (v := .ty "list") (by rfl) T.z_list (by decide +kernel) rfl) pa_nil)))))))))) (pss_one (ps_ret pe_bl)) pss_nil)
      (pss_cons (ps_asg (pv 3) (pg_tup (by rfl) (pgs_cons (pg_name (i := 4) sc_is_right.nd rfl (Or.inl rfl)) (pgs_cons (pg_name (i := 5) sc_is_right.nd rfl (Or.inl rfl)) pgs_nil))))
      (pss_cons (ps_if (PW.pt (pw_or (pt_cmpR op_lt (pv 4) pe_int (nomark _)) (pw_or (pt_cmpR op_ge (pv 4) (pe_callB q_len (by rfl) T.z_len (by decide +kernel) (pa_cons (pv 0) pa_nil)) (nomark _)) (pw_or (pt_cmp (pc_din (Nat.lt_of_le_of_lt (Nat.add_le_add_left (by decide) _) hr.units) (pv 4) (pv 2)) (by rfl)) (pw_or1 (pt_cmpR op_ne (pe_callB q_len (by rfl) T.z_len (by decide +kernel) (pa_cons (pv 5) pa_nil)) (pe_callB q_len (by rfl) T.z_len (by decide +kernel) (pa_cons (pe_call (ok_options T) (hr.mono (by first | decide | omega | (simp only [Nat.add_eq]; omega))) (by rfl) T.g_options T.F_options.kp T.b_options .nil pass0 (pa_cons (pv 1) (pa_cons (pv 2) pa_nil))) pa_nil)) (nomark _))))))) (pss_one (ps_ret pe_bl)) pss_nil)
      (pss_cons (ps_for PassesOwn.never rfl (pi_enum (by rfl) T.z_enumerate (pa_cons (pv 5) pa_nil)) (pg_tup (by rfl) (pgs_cons (pg_name (i := 6) sc_is_right.nd rfl (Or.inl rfl)) (pgs_cons (pg_name (i := 7) sc_is_right.nd rfl (Or.inl rfl)) pgs_nil)))
      (pss_one (ps_if (pt_val (pe_call (ok_is_stuck T) (hr.mono (by first | decide | omega | (simp only [Nat.add_eq]; omega))) (by rfl) T.g_is_stuck T.F_is_stuck.kp T.b_is_stuck .nil pass0 (pa_cons (pv 0) (pa_cons (pv 2) (pa_cons (pv 4) (pa_cons (pv 6) pa_nil)))))) (pss_one (ps_if (PW.pt (pw_or (pt_not (pt_val (pe_callB q_isi (by rfl) T.z_isinstance (by decide +kernel) (pa_cons (pv 7) (pa_cons (pe_bltn (v := .ty "tuple") (by rfl) T.z_tuple (by decide +kernel) rfl) pa_nil))))) (pw_or1 (pt_cmpR (op_neD hr.units) (pv 7) (pe_tup pa_nil) (nomark _))))) (pss_one (ps_ret pe_bl)) pss_nil)) (pss_one (ps_if (pt_not (pt_val (pe_call (okd_is_right T d) (hr.mono (by first | decide | omega | (simp only [Nat.add_eq]; omega))) (by rfl) T.g_is_right T.F_is_right.kp T.b_is_right .nil pass0 (pa_cons (pv 0) (pa_cons (pv 1) (pa_cons (pe_call (ok_with_hue T) (hr.mono (by first | decide | omega | (simp only [Nat.add_eq]; omega))) (by rfl) T.g_with_hue T.F_with_hue.kp T.b_with_hue .nil pass0 (pa_cons (pv 2) (pa_cons (pv 4) (pa_cons (pv 6) pa_nil)))) (pa_cons (pv 7) pa_nil))))))) (pss_one (ps_ret pe_bl)) pss_nil)))))
      (pss_one (ps_ret pe_bl)))))), pure_is_right h⟩
abbrev sp_is_right (K : PySem.W.Frag) : Sp := fun vs H Q E => ∃ v0 v1 v2 v3, vs = [v0, v1, v2, v3] ∧ ∃ d : Nat, d < 14 ∧ pr_is_right K d v0 v1 v2 v3 H Q E
theorem ok_is_right (T : Txt K mg A) : FnOk P w K mg base CX0 16 A.a_is_right A.d_is_right ["meets", "h", "given", "case"] (sp_is_right K) := by
  refine T.F_is_right.ok sc_is_right (fun vs H Q E h => by obtain ⟨v0, v1, v2, v3, rfl, _⟩ := h; rfl) (fun cdv A0 outer s H vs Q E hr h => ?_)
  obtain ⟨v0, v1, v2, v3, rfl, d, hd, h⟩ := h
  exact ⟨t_is_right K (spd_is_right K d), (pss_cons (ps_if (PW.pt (pw_or (pt_not (pt_val (pe_callB q_isi (by rfl) T.z_isinstance (by decide +kernel) (pa_cons (pv 3) (pa_cons (pe_bltn (v := .ty "tuple") (by rfl) T.z_tuple (by decide +kernel) rfl) pa_nil))))) (pw_or (pt_cmpR op_ne (pe_callB q_len (by rfl) T.z_len (by decide +kernel) (pa_cons (pv 3) pa_nil)) pe_int (nomark _)) (pw_or (pt_not (pt_val (pe_call (ok_is_whole T) (hr.mono (by first | decide | omega | (simp only [Nat.add_eq]; omega))) (by rfl) T.g_is_whole T.F_is_whole.kp T.b_is_whole .nil pass0 (pa_cons (pe_ix ix_tup (pv 3) pe_int (fun _ _ => rfl)) pa_nil)))) (pw_or1 (pt_not (pt_val (pe_callB q_isi (by rfl) T.z_isinstance (by decide +kernel) (pa_cons (pe_ix ix_tup (pv 3) pe_int (fun _ _ => rfl)) (pa_cons (pe_bltn (v := .ty "list") (by rfl) T.z_list (by decide +kernel) rfl) pa_nil)))))))))) (pss_one (ps_ret pe_bl)) pss_nil)
      (pss_cons (ps_asg (pv 3) (pg_tup (by rfl) (pgs_cons (pg_name (i := 4) sc_is_right.nd rfl (Or.inl rfl)) (pgs_cons (pg_name (i := 5) sc_is_right.nd rfl (Or.inl rfl)) pgs_nil))))
      (pss_cons (ps_if (PW.pt (pw_or (pt_cmpR op_lt (pv 4) pe_int (nomark _)) (pw_or (pt_cmpR op_ge (pv 4) (pe_callB q_len (by rfl) T.z_len (by decide +kernel) (pa_cons (pv 0) pa_nil)) (nomark _)) (pw_or (pt_cmp (pc_din (Nat.lt_of_le_of_lt (Nat.add_le_add_left (by decide) _) hr.units) (pv 4) (pv 2)) (by rfl)) (pw_or1 (pt_cmpR op_ne (pe_callB q_len (by rfl) T.z_len (by decide +kernel) (pa_cons (pv 5) pa_nil)) (pe_callB q_len (by rfl) T.z_len (by decide +kernel) (pa_cons (pe_call (ok_options T) (hr.mono (by first | decide | omega | (simp only [Nat.add_eq]; omega))) (by rfl) T.g_options T.F_options.kp T.b_options .nil pass0 (pa_cons (pv 1) (pa_cons (pv 2) pa_nil))) pa_nil)) (nomark _))))))) (pss_one (ps_ret pe_bl)) pss_nil)
      (pss_cons (ps_for PassesOwn.never rfl (pi_enum (by rfl) T.z_enumerate (pa_cons (pv 5) pa_nil)) (pg_tup (by rfl) (pgs_cons (pg_name (i := 6) sc_is_right.nd rfl (Or.inl rfl)) (pgs_cons (pg_name (i := 7) sc_is_right.nd rfl (Or.inl rfl)) pgs_nil)))
      (pss_one (ps_if (pt_val (pe_call (ok_is_stuck T) (hr.mono (by first | decide | omega | (simp only [Nat.add_eq]; omega))) (by rfl) T.g_is_stuck T.F_is_stuck.kp T.b_is_stuck .nil pass0 (pa_cons (pv 0) (pa_cons (pv 2) (pa_cons (pv 4) (pa_cons (pv 6) pa_nil)))))) (pss_one (ps_if (PW.pt (pw_or (pt_not (pt_val (pe_callB q_isi (by rfl) T.z_isinstance (by decide +kernel) (pa_cons (pv 7) (pa_cons (pe_bltn (v := .ty "tuple") (by rfl) T.z_tuple (by decide +kernel) rfl) pa_nil))))) (pw_or1 (pt_cmpR (op_neD hr.units) (pv 7) (pe_tup pa_nil) (nomark _))))) (pss_one (ps_ret pe_bl)) pss_nil)) (pss_one (ps_if (pt_not (pt_val (pe_call (okd_is_right T d) (hr.mono (by first | decide | omega | (simp only [Nat.add_eq]; omega))) (by rfl) T.g_is_right T.F_is_right.kp T.b_is_right .nil pass0 (pa_cons (pv 0) (pa_cons (pv 1) (pa_cons (pe_call (ok_with_hue T) (hr.mono (by first | decide | omega | (simp only [Nat.add_eq]; omega))) (by rfl) T.g_with_hue T.F_with_hue.kp T.b_with_hue .nil pass0 (pa_cons (pv 2) (pa_cons (pv 4) (pa_cons (pv 6) pa_nil)))) (pa_cons (pv 7) pa_nil))))))) (pss_one (ps_ret pe_bl)) pss_nil)))))
      (pss_one (ps_ret pe_bl)))))), pure_is_right h⟩


def pr_ties_many (K : PySem.W.Frag) (v0 : V) (H : Hp) (Q : VK) (_ : XK) : Prop := ∃ N : Net, Dp K H v0 N.d ∧ N.ok ∧ Q (.int N.ties) H
def t_ties_many (K : PySem.W.Frag) : TS :=
  (tRet (tOp xSub (tCall (sp_places_of K) [] E0 (tCons (tVar 0) tNil)) (tCB rIntOf (tCons (tOp rNe (tOp (rIxT K) (tVar 0) (tC (.int 0))) (tC (.str (Str.ofString "ring")))) tNil))))
theorem pure_ties_many {v0 : V} {H : Hp} {Q : VK} {E : XK} (h : pr_ties_many K v0 H Q E) : t_ties_many K ⟨fun _ H' => Q .non H', Q, fun _ _ => False, fun _ _ => False⟩ [some v0] H := by
  obtain ⟨N, hd, ok, q⟩ := h
  obtain ⟨a, y, rfl, hs, hy⟩ := dp_net hd
  unfold t_ties_many
  wtm_at "s"
  refine ⟨_, rfl, N, hd, ?_⟩
  wtm_at "s"
  refine k_neS ?_
  cases N with
  | line n =>
    rw [show Net.kind (.line n) = Str.ofString "line" from rfl, s_lr]
    wtm_at "s"
    have : ((Net.line n).ties : Int) = n - 1 := by have := ok.1; show ((n - 1).toNat : Int) = _; omega
    rw [this] at q
    exact q
  | ring n =>
    rw [show Net.kind (.ring n) = Str.ofString "ring" from rfl, s_same]
    wtm_at "s"
    have : ((Net.ring n).ties : Int) = n - 0 := by have := ok.1; show ((n).toNat : Int) = _; omega
    rw [this] at q
    exact q
  | tree ps =>
    rw [show Net.kind (.tree ps) = Str.ofString "tree" from rfl, s_tr]
    wtm_at "s"
    have : ((Net.tree ps).ties : Int) = (ps.length + 1 : Int) - 1 := by show (ps.length : Int) = _; omega
    rw [this] at q
    exact q
abbrev sp_ties_many (K : PySem.W.Frag) : Sp := fun vs H Q E => ∃ v0, vs = [v0] ∧ pr_ties_many K v0 H Q E
theorem ok_ties_many (T : Txt K mg A) : FnOk P w K mg base CX0 2 A.a_ties_many A.d_ties_many ["net"] (sp_ties_many K) := by
  refine T.F_ties_many.ok sc_ties_many (fun vs H Q E h => by obtain ⟨v0, rfl, _⟩ := h; rfl) (fun cdv A0 outer s H vs Q E hr h => ?_)
  obtain ⟨v0, rfl, h⟩ := h
  exact ⟨t_ties_many K, (pss_one (ps_ret (pe_op op_sub (pe_call (ok_places_of T) (hr.mono (by decide)) (by rfl) T.g_places_of T.F_places_of.kp T.b_places_of .nil pass0 (pa_cons (pv 0) pa_nil)) (pe_callTy q_intB (by rfl) T.z_int (by decide +kernel) (pa_cons (pe_cmpR op_ne (pe_ix ix_tup (pv 0) pe_int (fun _ _ => rfl)) pe_str (nomark _)) pa_nil))))), pure_ties_many h⟩
def pr_counted (K : PySem.W.Frag) (v0 v1 : V) (H : Hp) (Q : VK) (_ : XK) : Prop := ∃ (N : Net) (ws : List (Int × Int)), Dp K H v0 N.d ∧ N.ok ∧ Dp K H v1 (dPairs ws) ∧ ws.length ≤ 10000 ∧ (∀ w ∈ ws, isWay N w.1 w.2) ∧
  ∀ p H', H p = none → Same H H' → H' p = some (.lst (List.map V.int (loadsOf N ws))) → Q (.ref p) H'
def t_counted (K : PySem.W.Frag) : TS :=
  (tSeq (tAsg (tOp rRep (tLst (tCons (tC (.int 0)) tNil)) (tCall (sp_ties_many K) [] E0 (tCons (tVar 0) tNil))) (gName 2))
    (tSeq (tFor (iList K (tVar 1)) (gName 3)
      (tFor (iList K (tCall (sp_ties_on K) [] E0 (tCons (tVar 0) (tCons (tVar 3) tNil)))) (gName 4)
      (xAugL K (tVar 2) (tVar 4) (tC (.int 1)))))
    (tRet (tVar 2))))
def fl (n : Nat) (f : Nat → Int) : List Int := (List.range n).map f
theorem fl_len (n : Nat) (f : Nat → Int) : (fl n f).length = n := by unfold fl; simp
theorem fl_get {n : Nat} {f : Nat → Int} {i : Nat} (h : i < n) : (fl n f).getD i 0 = f i := by
  unfold fl
  rw [List.getD_eq_getElem?_getD, List.getElem?_map, List.getElem?_range h]; rfl
theorem fl_set {n : Nat} {f : Nat → Int} {i : Nat} {v : Int} : (fl n f).set i v = fl n fun s => if s = i then v else f s := by
  unfold fl
  apply List.ext_getElem
  · simp
  · intro j h1 h2
    rw [List.getElem_set]
    simp only [List.getElem_map, List.getElem_range]
    by_cases c : i = j
    · rw [if_pos c, if_pos c.symm]
    · rw [if_neg c, if_neg fun e => c e.symm]
theorem fl_congr {n : Nat} {f g : Nat → Int} (h : ∀ i, i < n → f i = g i) : fl n f = fl n g := by
  unfold fl
  exact List.map_congr_left fun i hi => h i (List.mem_range.mp hi)
theorem pure_counted {v0 v1 : V} {H : Hp} {Q : VK} {E : XK} (h : pr_counted K v0 v1 H Q E) : t_counted K ⟨fun _ H' => Q .non H', Q, fun _ _ => False, fun _ _ => False⟩ [some v0, some v1, none, none, none] H := by
  obtain ⟨N, ws, hd, ok, hw, hz, hok, q⟩ := h
  obtain ⟨b, xs, rfl, hb, hxs⟩ := dp_list hw
  have hl := dpa_len hxs
  rw [List.length_map] at hl
  obtain ⟨t0, t1⟩ := ties_le ok
  unfold t_counted
  wtm_at "s"
  refine ⟨sz (by simp), fun z0 nz0 => ?_⟩
  have s1 := same_new (o := .lst [.int 0]) nz0
  have e1 := upd_same (H := H) (a := z0) (o := .lst [.int 0])
  generalize upd H z0 (.lst [.int 0]) = H1 at s1 e1 ⊢
  wtm_at "s"
  refine ⟨_, rfl, N, dp_same s1 hd, ok, ?_⟩
  refine k_rep e1 (by omega) (by omega) (by simp; omega) (fun fo nfo => ?_)
  have s2 := same_new (o := .lst (List.replicate (N.ties : Int).toNat [V.int 0]).flatten) nfo
  have e2 : upd H1 fo (.lst (List.replicate (N.ties : Int).toNat [V.int 0]).flatten) fo = some (.lst (List.map V.int (fl N.ties fun t => (cnt N (ws.take 0) (t : Nat) : Int)))) := by
    rw [upd_same]
    have : ∀ n : Nat, (List.replicate n [V.int 0]).flatten = List.map V.int (fl n fun t => (cnt N (ws.take 0) (t : Nat) : Int)) := fun n => by
      unfold fl
      rw [List.map_map]
      apply List.ext_getElem
      · simp
      · intro i h1 h2
        simp [cnt]
    rw [Int.toNat_natCast, this]
  generalize upd H1 fo (.lst (List.replicate (N.ties : Int).toNat [V.int 0]).flatten) = H2 at s2 e2 ⊢
  have nfo0 : H fo = none := s1.free nfo
  have s02 := s1.trans s2
  wtm_at "s"
  refine forL (s02.seq hb) (fun i σ' H' => Same H H' ∧ H' fo = some (.lst (List.map V.int (fl N.ties fun t => (cnt N (ws.take i) (t : Nat) : Int)))) ∧ ∃ k3 k4, σ' = [some v0, some (.ref b), some (.ref fo), k3, k4]) ⟨s02, e2, none, none, rfl⟩ (fun i σ' H' _ e => e.1.seq hb) ?_ ?_
  · rintro i x σ' H' hx ⟨sm, hf, k3, k4, rfl⟩
    obtain ⟨d, hd1, hd2⟩ := dpa_get hxs hx
    rw [List.getElem?_map] at hd1
    obtain ⟨w, hw1, rfl⟩ := Option.map_eq_some_iff.mp hd1
    have wok := hok w (List.mem_of_getElem? hw1)
    have ct := cnt_take (N := N) hw1
    wtm_at "s"
    refine ⟨_, _, rfl, N, w.1, w.2, dp_same sm hd, dp_same sm hd2, ok, wok, fun tl ns H3 ntl s3 htl tt => ?_⟩
    have ntf : tl ≠ fo := fun e => by rw [e, hf] at ntl; cases ntl
    have inr : ∀ t ∈ ns, 0 ≤ t ∧ t < N.ties := fun t ht => on_range ok wok ((tt.mem t).mp ht)
    refine forL (sl htl) (fun j σ' H' => Same H H' ∧ H' tl = some (.lst (List.map V.int ns)) ∧ H' fo = some (.lst (List.map V.int (fl N.ties fun t => (cnt N (ws.take i) (t : Nat) : Int) + if (t : Int) ∈ ns.take j then 1 else 0))) ∧ ∃ k4, σ' = [some v0, some (.ref b), some (.ref fo), some x, k4])
      ⟨sm.trans s3, htl, by rw [s3 _ _ hf]; simp, k4, rfl⟩ (fun i σ' H' _ e => sl e.2.1) ?_ ?_
    · rintro j y σ' H4 hy ⟨s4, htl4, hf4, k4, rfl⟩
      rw [List.getElem?_map] at hy
      obtain ⟨t, ht, rfl⟩ := Option.map_eq_some_iff.mp hy
      obtain ⟨r0, r1⟩ := inr t (List.mem_of_getElem? ht)
      wtm_at "s"
      refine k_getI (sl hf4) r0 (by rw [fl_len]; exact r1) ?_
      wtm_at "s"
      refine k_setI hf4 r0 (by rw [fl_len]; exact r1) ?_
      rw [fl_get (by omega), fl_set]
      refine ⟨same_mut s4 nfo0, by rw [upd_ne ntf]; exact htl4, ?_, _, rfl⟩
      rw [upd_same]
      congr 3
      refine fl_congr fun s hs => ?_
      have nin : t ∉ ns.take j := fun z => by
        obtain ⟨m, hm, e⟩ := List.mem_take_iff_getElem.mp z
        have lt := List.pairwise_iff_getElem.mp tt.srt m j (by omega) (List.getElem?_eq_some_iff.mp ht).1 (by omega)
        rw [e, (List.getElem?_eq_some_iff.mp ht).2] at lt
        omega
      rw [List.take_add_one, ht]
      by_cases c : s = t.toNat
      · subst c
        have e : ((t.toNat : Nat) : Int) = t := by omega
        rw [if_pos rfl, e, if_neg nin, if_pos (by simp)]
        omega
      · have c' : ¬ (s : Int) = t := fun e => c (by omega)
        rw [if_neg c]
        congr 1
        simp [c']
    · rintro σ' H4 ⟨s4, htl4, hf4, k4, rfl⟩
      refine ⟨s4, ?_, _, _, rfl⟩
      rw [hf4]
      congr 3
      refine fl_congr fun s hs => ?_
      rw [ct, List.length_map, List.take_length]
      by_cases c : OnTie N w.1 w.2 s
      · rw [if_pos c, if_pos ((tt.mem _).mpr c)]; omega
      · rw [if_neg c, if_neg fun z => c ((tt.mem _).mp z)]; omega
  · rintro σ' H' ⟨sm, hf, k3, k4, rfl⟩
    rw [hl, List.take_length] at hf
    wtm_at "s"
    exact q fo H' nfo0 sm hf
abbrev sp_counted (K : PySem.W.Frag) : Sp := fun vs H Q E => ∃ v0 v1, vs = [v0, v1] ∧ pr_counted K v0 v1 H Q E
theorem ok_counted (T : Txt K mg A) : FnOk P w K mg base CX0 3 A.a_counted A.d_counted ["net", "ways"] (sp_counted K) := by
  refine T.F_counted.ok sc_counted (fun vs H Q E h => by obtain ⟨v0, v1, rfl, _⟩ := h; rfl) (fun cdv A0 outer s H vs Q E hr h => ?_)
  obtain ⟨v0, v1, rfl, h⟩ := h
  exact ⟨t_counted K, (pss_cons (ps_set (i := 2) sc_counted.nd rfl (Or.inl rfl) (pe_op op_rep (pe_lst (pa_cons pe_int pa_nil)) (pe_call (ok_ties_many T) (hr.mono (by decide)) (by rfl) T.g_ties_many T.F_ties_many.kp T.b_ties_many .nil pass0 (pa_cons (pv 0) pa_nil))))
      (pss_cons (ps_for PassesOwn.never rfl (pi_list (pv 1)) (pg_name (i := 3) sc_counted.nd rfl (Or.inl rfl))
      (pss_one (ps_for PassesOwn.never rfl (pi_list (pe_call (ok_ties_on T) (hr.mono (by decide)) (by rfl) T.g_ties_on T.F_ties_on.kp T.b_ties_on .nil pass0 (pa_cons (pv 0) (pa_cons (pv 3) pa_nil)))) (pg_name (i := 4) sc_counted.nd rfl (Or.inl rfl))
      (pss_one (q_augL (pv 2) (pv 4) pe_int)))))
      (pss_one (ps_ret (pv 2))))), pure_counted h⟩
def pr_loads (K : PySem.W.Frag) (v0 v1 : V) (H : Hp) (Q : VK) (_ : XK) : Prop := ∃ (N : Net) (ws : List (Int × Int)), Dp K H v0 N.d ∧ N.ok ∧ Dp K H v1 (dPairs ws) ∧ ws.length ≤ 10000 ∧ (∀ w ∈ ws, isWay N w.1 w.2) ∧
  ∀ p H', H p = none → Same H H' → H' p = some (.lst (List.map V.int (loadsOf N ws))) → Q (.ref p) H'
def t_loads (K : PySem.W.Frag) : TS :=
  (tSeq (tDrop (tCall (sp_look_ways K) [] E0 (tCons (tVar 0) (tCons (tVar 1) tNil))))
    (tRet (tCall (sp_counted K) [] E0 (tCons (tVar 0) (tCons (tVar 1) tNil)))))
theorem pure_loads {v0 v1 : V} {H : Hp} {Q : VK} {E : XK} (h : pr_loads K v0 v1 H Q E) : t_loads K ⟨fun _ H' => Q .non H', Q, fun _ _ => False, fun _ _ => False⟩ [some v0, some v1] H := by
  obtain ⟨N, ws, hd, ok, hw, hz, hok, q⟩ := h
  unfold t_loads
  wtm_at "s"
  refine ⟨_, _, rfl, N, ws, hd, ok, hw, hz, hok, ?_⟩
  wtm_at "s"
  exact ⟨_, _, rfl, N, ws, hd, ok, hw, hz, hok, q⟩
abbrev sp_loads (K : PySem.W.Frag) : Sp := fun vs H Q E => ∃ v0 v1, vs = [v0, v1] ∧ pr_loads K v0 v1 H Q E
theorem ok_loads (T : Txt K mg A) : FnOk P w K mg base CX0 5 A.a_loads A.d_loads ["net", "ways"] (sp_loads K) := by
  refine T.F_loads.ok sc_loads (fun vs H Q E h => by obtain ⟨v0, v1, rfl, _⟩ := h; rfl) (fun cdv A0 outer s H vs Q E hr h => ?_)
  obtain ⟨v0, v1, rfl, h⟩ := h
  exact ⟨t_loads K, (pss_cons (ps_expr (pe_call (ok_look_ways T) (hr.mono (by decide)) (by rfl) T.g_look_ways T.F_look_ways.kp T.b_look_ways .nil pass0 (pa_cons (pv 0) (pa_cons (pv 1) pa_nil))))
      (pss_one (ps_ret (pe_call (ok_counted T) (hr.mono (by decide)) (by rfl) T.g_counted T.F_counted.kp T.b_counted .nil pass0 (pa_cons (pv 0) (pa_cons (pv 1) pa_nil)))))), pure_loads h⟩
/-- two ways of one hue that meet, or a hue below 0 -/
def BadM (M : Nat → Nat → Prop) (n : Nat) (hs : List Int) (i j : Nat) : Prop := i ≤ j ∧ j < n ∧ if i = j then hs.getD i 0 < 0 else hs.getD i 0 = hs.getD j 0 ∧ M i j
def FirstM (M : Nat → Nat → Prop) (n : Nat) (hs : List Int) (i j : Nat) : Prop := BadM M n hs i j ∧ ∀ i' j', i' < i ∨ i' = i ∧ j' < j → ¬ BadM M n hs i' j'
def meetL (lain : List (List Int)) (i j : Nat) : Prop := ∃ t, t ∈ lain.getD i [] ∧ t ∈ lain.getD j []
def OutM (M : Nat → Nat → Prop) (n : Nat) (hs : List Int) (H : Hp) (Q : VK) : Prop := (hs.length ≠ n → ∀ p H', H p = none → Same H H' → H' p = some (.tup [.int (-1), .int (-1)]) → Q (.ref p) H') ∧
  (hs.length = n → (∀ i j, ¬ BadM M n hs i j) → ∀ H', Same H H' → Q .non H') ∧ (∀ i j, hs.length = n → FirstM M n hs i j → ∀ p H', H p = none → Same H H' → H' p = some (.tup [.int (i : Nat), .int (j : Nat)]) → Q (.ref p) H')
def pr_first_clash (K : PySem.W.Frag) (v0 v1 : V) (H : Hp) (Q : VK) (_ : XK) : Prop := ∃ (lain : List (List Int)) (hs : List Int) (M : Nat → Nat → Prop), Dp K H v0 (.list (lain.map dInts)) ∧ Dp K H v1 (dInts hs) ∧ lain.length ≤ 1000 ∧ (∀ l ∈ lain, l.length ≤ 1000) ∧
  (∀ i j, i < lain.length → j < lain.length → (meetL lain i j ↔ M i j)) ∧ OutM M lain.length hs H Q
def t_first_clash (K : PySem.W.Frag) : TS :=
  (tSeq (tIfS (tTest (tOp rNe (tCB (rLenX K) (tCons (tVar 1) tNil)) (tCB (rLenX K) (tCons (tVar 0) tNil)))) (tRet (tTup (tCons (tUn xNeg (tC (.int 1))) (tCons (tUn xNeg (tC (.int 1))) tNil)))) tNext)
    (tSeq (tFor (iRng1 (tCons (tCB (rLenX K) (tCons (tVar 0) tNil)) tNil)) (gName 2)
      (tSeq (tIfS (tTest (tOp xLt (tOp (rIxL K) (tVar 1) (tVar 2)) (tC (.int 0)))) (tRet (tTup (tCons (tVar 2) (tCons (tVar 2) tNil)))) tNext)
    (tFor (iRng2 (tCons (tOp xAdd (tVar 2) (tC (.int 1))) (tCons (tCB (rLenX K) (tCons (tVar 0) tNil)) tNil))) (gName 3)
      (tIfS (tAnd (tTest (tOp rEq (tOp (rIxL K) (tVar 1) (tVar 2)) (tOp (rIxL K) (tVar 1) (tVar 3)))) (tTest (tOp xGt (tCB (rLenX K) (tCons (tLc (iList K (tOp (rIxL K) (tVar 0) (tVar 2))) (gName 4) (tTest (tOp (rIn K false) (tVar 4) (tOp (rIxL K) (tVar 0) (tVar 3)))) (tVar 4) [4]) tNil)) (tC (.int 0))))) (tRet (tTup (tCons (tVar 2) (tCons (tVar 3) tNil)))) tNext))))
    (tRet (tC .non))))
theorem dlists_get {K : PySem.W.Frag} {H : Hp} {xs : List V} {ls : List (List Int)} {i : Nat} (hxs : DpAll K H xs (ls.map dInts)) (hi : i < ls.length) : ∃ c l, xs[i]? = some (.ref c) ∧ ls[i]? = some l ∧ SqL K H c (l.map V.int) := by
  have hl := dpa_len hxs
  rw [List.length_map] at hl
  have hx : xs[i]? = some (xs[i]'(by omega)) := List.getElem?_eq_getElem (by omega)
  obtain ⟨d, hd1, hd2⟩ := dpa_get hxs hx
  rw [List.getElem?_map] at hd1
  obtain ⟨l, h1, rfl⟩ := Option.map_eq_some_iff.mp hd1
  obtain ⟨c, e, h2⟩ := dp_ints hd2
  exact ⟨c, l, by rw [hx, e], h1, h2⟩
theorem getD_of {α : Type} {l : List α} {i : Nat} {x d : α} (h : l[i]? = some x) : l.getD i d = x := by rw [List.getD_eq_getElem?_getD, h]; rfl
theorem meet_fm (xs ys : List Int) : 0 < (xs.filterMap fun t => if t ∈ ys then some (V.int t) else none).length ↔ ∃ t, t ∈ xs ∧ t ∈ ys := by
  rw [List.length_pos_iff_exists_mem]
  constructor
  · rintro ⟨v, hv⟩
    obtain ⟨t, h1, h2⟩ := List.mem_filterMap.mp hv
    by_cases c : t ∈ ys
    · exact ⟨t, h1, c⟩
    · rw [if_neg c] at h2; cases h2
  · rintro ⟨t, h1, h2⟩
    exact ⟨.int t, List.mem_filterMap.mpr ⟨t, h1, by rw [if_pos h2]⟩⟩
theorem pure_first_clash {v0 v1 : V} {H : Hp} {Q : VK} {E : XK} (h : pr_first_clash K v0 v1 H Q E) : t_first_clash K ⟨fun _ H' => Q .non H', Q, fun _ _ => False, fun _ _ => False⟩ [some v0, some v1, none, none, none] H := by
  obtain ⟨lain, hs, M, hd, hh, n1, n2, hM, q0, q1, q2⟩ := h
  obtain ⟨b, xs, rfl, hb, hxs⟩ := dp_list hd
  obtain ⟨c, rfl, hc⟩ := dp_ints hh
  have hl := dpa_len hxs
  rw [List.length_map] at hl
  unfold t_first_clash
  wtm_at "s"
  refine k_itn (fun ne => ?_) (fun eq => ?_)
  · wtm_at "s"
    exact kT (by simp) (fun p H1 np s1 e1 => q0 (by omega) p H1 np s1 e1)
  have eq' : hs.length = lain.length := by omega
  clear eq q0 hh hd
  wtm_at "s"
  refine forR (fun i σ' H' => Same H H' ∧ (∃ k2 k3, σ' = [some (.ref b), some (.ref c), k2, k3, none]) ∧ ∀ i' j', i' < i → ¬ BadM M lain.length hs i' j') ⟨Same.refl _, ⟨none, none, rfl⟩, fun i' j' z => by omega⟩ ?_ ?_
  · rintro i σ' H1 hi ⟨s1, ⟨k2, k3, rfl⟩, no⟩
    rw [Int.zero_add]
    have hi' : i < lain.length := by omega
    obtain ⟨x, hx⟩ : ∃ x, hs[i]? = some x := ⟨hs[i], List.getElem?_eq_getElem (by omega)⟩
    obtain ⟨ci, li, hxi, hli, hci⟩ := dlists_get hxs hi'
    wtm_at "s"
    refine k_ixN (s1.seq hc) hx ?_
    wtm_at "s"
    refine k_it (fun neg => ?_) (fun pos => ?_)
    · wtm_at "s"
      refine kT (by simp) (fun p H2 np s2 e2 => q2 i i eq' ⟨⟨Nat.le_refl _, hi', by rw [if_pos rfl, getD_of hx]; exact neg⟩, fun i' j' z => ?_⟩ p H2 (s1.free np) (s1.trans s2) e2)
      rcases z with z | ⟨rfl, z⟩
      · exact no i' j' z
      · exact fun w => by have := w.1; omega
    · wtm_at "s"
      refine forR (fun t σ' H' => Same H H' ∧ (∃ k3, σ' = [some (.ref b), some (.ref c), some (.int (i : Nat)), k3, none]) ∧ ∀ j', j' < i + 1 + t → ¬ BadM M lain.length hs i j') ⟨s1, ⟨k3, rfl⟩, fun j' z w => ?_⟩ ?_ ?_
      · have e : i = j' := by have := w.1; omega
        subst e
        have := w.2.2
        rw [if_pos rfl, getD_of hx] at this
        exact pos this
      · rintro t σ' H2 ht ⟨s2, ⟨k3, rfl⟩, no2⟩
        rw [show (i : Int) + 1 + ((t : Nat) : Int) = ((i + 1 + t : Nat) : Int) by omega]
        have hj' : i + 1 + t < lain.length := by omega
        have step : ¬ BadM M lain.length hs i (i + 1 + t) → ∀ j', j' < i + 1 + (t + 1) → ¬ BadM M lain.length hs i j' := fun nb j' z => by
          by_cases e : j' = i + 1 + t
          · rw [e]; exact nb
          · exact no2 j' (by omega)
        obtain ⟨y, hy⟩ : ∃ y, hs[i + 1 + t]? = some y := ⟨hs[i + 1 + t], List.getElem?_eq_getElem (by omega)⟩
        obtain ⟨cj, lj, hxj, hlj, hcj⟩ := dlists_get hxs hj'
        have bad : BadM M lain.length hs i (i + 1 + t) ↔ x = y ∧ ∃ t, t ∈ li ∧ t ∈ lj := by
          unfold BadM
          rw [if_neg (by omega), getD_of hx, getD_of hy, ← hM i _ hi' hj']
          unfold meetL
          rw [getD_of hli, getD_of hlj]
          constructor
          · exact fun z => z.2.2
          · exact fun z => ⟨by omega, hj', z⟩
        generalize hje : i + 1 + t = j at hy hxj hlj bad step hj'
        wtm_at "s"
        refine k_ixN (s2.seq hc) hx ?_
        wtm_at "s"
        refine k_ixN (s2.seq hc) hy ?_
        wtm_at "s"
        refine k_it (fun e1 => ?_) (fun e1 => ?_)
        · wtm_at "s"
          refine k_ixL (s2.seq hb) (atI_nat hxi) ?_
          refine lc_pure (s2.seq hci) li (by simp) (by have := n2 li (List.mem_of_getElem? hli); omega) (fun t => if t ∈ lj then some (V.int t) else none) ?_ (fun D H3 nD s3 eD => ?_)
          · intro k z p H' hz hp sm R R0 h1 h2
            rw [List.getElem?_map, hp] at hz
            cases hz
            wtm_at "s"
            refine k_ixL (sm.seq (s2.seq hb)) (atI_nat hxj) ?_
            have hcj' := sm.seq (s2.seq hcj)
            wtm_at "s"
            refine k_it (fun w => ?_) (fun w => ?_)
            · wtm_at "s"
              exact h1 _ (by rw [if_pos w])
            · exact h2 (by rw [if_neg w])
          · wtm_at "s"
            refine k_it (fun w => ?_) (fun w => ?_)
            · wtm_at "s"
              have mt := (meet_fm li lj).mp (by omega)
              refine kT (by simp) (fun p H4 np s4 e4 => q2 i j eq' ⟨bad.mpr ⟨e1, mt⟩, fun i' j' z => ?_⟩ p H4 ((s2.trans s3).free np) (s2.trans (s3.trans s4)) e4)
              rcases z with z | ⟨rfl, z⟩
              · exact no i' j' z
              · exact no2 j' (by omega)
            · wtm_at "s"
              exact ⟨s2.trans s3, ⟨_, rfl⟩, step fun z => w (by have := (meet_fm li lj).mpr (bad.mp z).2; omega)⟩
        · wtm_at "s"
          exact ⟨s2, ⟨_, rfl⟩, step fun z => e1 (bad.mp z).1⟩
      · rintro σ' H2 ⟨s2, ⟨k3, rfl⟩, no2⟩
        refine ⟨s2, ⟨_, _, rfl⟩, fun i' j' z => ?_⟩
        by_cases e : i' = i
        · subst e
          by_cases hj : j' < lain.length
          · exact no2 j' (by omega)
          · exact fun w => hj w.2.1
        · exact no i' j' (by omega)
  · rintro σ' H1 ⟨s1, ⟨k2, k3, rfl⟩, no⟩
    wtm_at "s"
    exact q1 eq' (fun i j z => no i j (by have := z.1; have := z.2.1; omega) z) H1 s1
abbrev sp_first_clash (K : PySem.W.Frag) : Sp := fun vs H Q E => ∃ v0 v1, vs = [v0, v1] ∧ pr_first_clash K v0 v1 H Q E
theorem ok_first_clash (T : Txt K mg A) : FnOk P w K mg base CX0 1 A.a_first_clash A.d_first_clash ["lain", "hues"] (sp_first_clash K) := by
  refine T.F_first_clash.ok sc_first_clash (fun vs H Q E h => by obtain ⟨v0, v1, rfl, _⟩ := h; rfl) (fun cdv A0 outer s H vs Q E hr h => ?_)
  obtain ⟨v0, v1, rfl, h⟩ := h
  exact ⟨t_first_clash K, (pss_cons (ps_if (pt_cmpR op_ne (pe_callB q_len (by rfl) T.z_len (by decide +kernel) (pa_cons (pv 1) pa_nil)) (pe_callB q_len (by rfl) T.z_len (by decide +kernel) (pa_cons (pv 0) pa_nil)) (nomark _)) (pss_one (ps_ret (pe_tup (pa_cons (pe_un un_neg pe_int) (pa_cons (pe_un un_neg pe_int) pa_nil))))) pss_nil)
      (pss_cons (ps_for PassesOwn.never rfl (pi_range1 (by rfl) T.z_range (pa_cons (pe_callB q_len (by rfl) T.z_len (by decide +kernel) (pa_cons (pv 0) pa_nil)) pa_nil)) (pg_name (i := 2) sc_first_clash.nd rfl (Or.inl rfl))
      (pss_cons (ps_if (pt_cmpR op_lt (pe_ix ix_list (pv 1) (pv 2) (fun _ _ => rfl)) pe_int (nomark _)) (pss_one (ps_ret (pe_tup (pa_cons (pv 2) (pa_cons (pv 2) pa_nil))))) pss_nil)
      (pss_one (ps_for PassesOwn.never rfl (pi_range2 (by rfl) T.z_range (pa_cons (pe_op op_add (pv 2) pe_int) (pa_cons (pe_callB q_len (by rfl) T.z_len (by decide +kernel) (pa_cons (pv 0) pa_nil)) pa_nil))) (pg_name (i := 3) sc_first_clash.nd rfl (Or.inr rfl))
      (pss_one (ps_if (PW.pt (pw_and (pt_cmpR op_eq (pe_ix ix_list (pv 1) (pv 2) (fun _ _ => rfl)) (pe_ix ix_list (pv 1) (pv 3) (fun _ _ => rfl)) (nomark _)) (pw_and1 (pt_cmpR op_gt (pe_callB q_len (by rfl) T.z_len (by decide +kernel) (pa_cons (pe_lc (own := [("tie", 4)]) (by rfl) sc_first_clash.nd (pi_list (pe_ix ix_list (pv 0) (pv 2) (fun _ _ => rfl))) (blkOk_by (own := [("tie", 4)]) (N := ["lain", "hues", "i", "j", "tie"]) (sc := defScope s_first_clash) (by decide +kernel)) (fun _ _ _ _ _ => (pg_name (i := 4) sc_first_clash.nd rfl (Or.inl rfl))) (fun _ _ _ _ _ => (pts_one (pt_cmpR op_in_seq (pv 4) (pe_ix ix_list (pv 0) (pv 3) (fun _ _ => rfl)) (by rfl)))) (fun _ _ _ _ _ => (pv 4))) pa_nil)) pe_int (nomark _))))) (pss_one (ps_ret (pe_tup (pa_cons (pv 2) (pa_cons (pv 3) pa_nil))))) pss_nil))))))
      (pss_one (ps_ret pe_non)))), pure_first_clash h⟩
def meetW (N : Net) (ws : List (Int × Int)) (i j : Nat) : Prop := ∃ w v t, ws[i]? = some w ∧ ws[j]? = some v ∧ OnTie N w.1 w.2 t ∧ OnTie N v.1 v.2 t
def LainOf (N : Net) (ws : List (Int × Int)) (lain : List (List Int)) : Prop := lain.length = ws.length ∧ ∀ (i : Nat) w l, ws[i]? = some w → lain[i]? = some l → l.Pairwise (· < ·) ∧ ∀ t, t ∈ l ↔ OnTie N w.1 w.2 t
theorem LainOf.meet {N : Net} {ws : List (Int × Int)} {lain : List (List Int)} (h : LainOf N ws lain) {i j : Nat} (hi : i < lain.length) (hj : j < lain.length) : meetL lain i j ↔ meetW N ws i j := by
  obtain ⟨hl, h⟩ := h
  have e1 : ws[i]? = some (ws[i]'(by omega)) := List.getElem?_eq_getElem (by omega)
  have e2 : ws[j]? = some (ws[j]'(by omega)) := List.getElem?_eq_getElem (by omega)
  have e3 : lain[i]? = some lain[i] := List.getElem?_eq_getElem hi
  have e4 : lain[j]? = some lain[j] := List.getElem?_eq_getElem hj
  unfold meetL meetW
  rw [getD_of e3, getD_of e4]
  constructor
  · rintro ⟨t, h1, h2⟩
    exact ⟨_, _, t, e1, e2, ((h i _ _ e1 e3).2 t).mp h1, ((h j _ _ e2 e4).2 t).mp h2⟩
  · rintro ⟨w, v, t, f1, f2, h1, h2⟩
    rw [e1] at f1; rw [e2] at f2
    cases f1; cases f2
    exact ⟨t, ((h i _ _ e1 e3).2 t).mpr h1, ((h j _ _ e2 e4).2 t).mpr h2⟩
theorem ok_places {N : Net} (h : N.ok) : N.places ≤ 60 := by
  cases N with
  | line n => exact h.2
  | ring n => exact h.2
  | tree ps => show (ps.length : Int) + 1 ≤ 60; have := h.2.1; omega
/-- the ties of each way, one list for each -/
theorem lc_lainG {σ : L2.St} {vs : List Nat} {j : Nat} {te : TE} {a : Addr} {xs : List V} {N : Net} {ws : List (Int × Int)} {H1 : Hp} {QD : Addr → Hp → Prop} (S0 : List Addr) (hS : ∀ b ∈ S0, H1 b ≠ none) (hs : SqL K H1 a xs) (hxs : DpAll K H1 xs (ws.map dPair)) (hz : ws.length ≤ 1000)
    (step : ∀ c w H' (R : V → Hp → Prop), w ∈ ws → Same H1 H' → SqT K H' c [.int w.1, .int w.2] → (∀ p ns H'', H' p = none → Same H' H'' → H'' p = some (.lst (List.map V.int ns)) → ns.Pairwise (· < ·) → (∀ t, t ∈ ns ↔ OnTie N w.1 w.2 t) → R (.ref p) H'') → te ((wipe σ vs).set j (some (.ref c))) H' R)
    (hwp : ∀ x, wipe ((wipe σ vs).set j (some x)) vs = wipe σ vs)
    (h : ∀ D lain H', H1 D = none → Same H1 H' → Dp K (hid S0 H') (.ref D) (.list (lain.map dInts)) → LainOf N ws lain → QD D H') :
    ∃ a', V.ref a = .ref a' ∧ (∃ xs, SqL K H1 a' xs) ∧ ∀ D, H1 D = none → ∃ W : Nat → Nat → Hp → Prop, (∃ m, W 0 m (upd H1 D (.lst []))) ∧ ∀ t m H, W t m H →
      ((Itl K a').stop t H ∧ QD D H) ∨ ((Itl K a').go t H ∧ ∃ Nx : Hp → Prop, (∀ H', Nx H' → ∃ m', m' < m ∧ W (t + 1) m' H') ∧ ∀ x H', (Itl K a').yld t H x H' → gName j x (wipe σ vs) H' fun σ2 H2 => wipe σ2 vs = wipe σ vs ∧ tYes σ2 H2 fun b H3 =>
        if b = true then te σ2 H3 fun y H4 => ∃ acc, H4 D = some (.lst acc) ∧ acc.length < sizeLine ∧ Nx (upd H4 D (.lst (acc ++ [y]))) else Nx H3) := by
  have hl := dpa_len hxs
  rw [List.length_map] at hl
  refine ⟨a, rfl, ⟨xs, hs⟩, fun D nD => lc_list (xs := xs) (fun t H => Same H1 H ∧ ∃ ys lain, H D = some (.lst ys) ∧ DpAll K (hid (D :: S0) H) ys (lain.map dInts) ∧ LainOf N (ws.take t) lain) ⟨same_new nD, [], [], upd_same, .nil, ⟨by simp, fun i w l z => by simp at z⟩⟩ (fun t H _ e => e.1.seq hs) ?_ ?_⟩
  · rintro t x H hx ⟨sm, ys, lain, hD, hys, ⟨ll, hla⟩⟩
    have ht : t < ws.length := by rw [← hl]; exact (List.getElem?_eq_some_iff.mp hx).1
    obtain ⟨w, c, hw, rfl, hc⟩ := dpairs_get hxs hx
    refine k_gname (k_wipe (hwp _) ?_)
    refine k_yes (iteT (step c w H _ (List.mem_of_getElem? hw) sm (same_seqT sm hc) fun p ns H' np s' hp srt mem => ?_))
    have pD : p ∉ D :: S0 := fun z => by
      rcases List.mem_cons.mp z with z | z
      · rw [z, hD] at np; cases np
      · exact hS p z (sm.free np)
    have ly := dpa_len hys
    rw [List.length_map] at ly
    have lt : (ws.take t).length = t := by rw [List.length_take]; omega
    refine ⟨ys, s' _ _ hD, szl (by omega), same_mut (sm.trans s') nD, ys ++ [.ref p], lain ++ [ns], upd_same, ?_, ⟨?_, fun k w' l hk hkl => ?_⟩⟩
    · rw [hid_upd (by simp), List.map_append]
      exact dpa_app (dpa_same (hid_mono s') hys) (.cons (dp_of_ints (sl (by rw [hid_ne pD]; exact hp))) .nil)
    · rw [List.length_append, ll, List.take_add_one, hw]; simp
    · rw [List.take_add_one, hw] at hk
      by_cases ck : k < t
      · rw [List.getElem?_append_left (by omega)] at hk hkl
        exact hla k w' l hk hkl
      · have e : k = t := by
          have := (List.getElem?_eq_some_iff.mp hk).1
          rw [List.length_append, lt] at this
          simp at this; omega
        subst e
        rw [List.getElem?_append_right (by omega), lt] at hk
        rw [List.getElem?_append_right (by omega), ll, lt] at hkl
        simp at hk hkl
        subst hk; subst hkl
        exact ⟨srt, mem⟩
  · rintro H ⟨sm, ys, lain, hD, hys, hla⟩
    rw [hl, List.take_length] at hla
    refine h D lain H nD sm (.lst (sl (xs := ys) ?_) (dpa_same (hid_sub fun x hx => List.mem_cons_of_mem _ hx) hys)) hla
    rw [hid_ne fun z => hS D z nD]; exact hD
theorem ss_len60 : ∀ {xs : List Int} {lo hi : Int}, xs.Pairwise (· < ·) → (∀ t ∈ xs, lo ≤ t ∧ t < hi) → xs.length ≤ (hi - lo).toNat
  | [], _, _, _, _ => Nat.zero_le _
  | x :: xs, lo, hi, h, hb => by
    obtain ⟨a1, a2⟩ := List.pairwise_cons.mp h
    have := ss_len60 (lo := x + 1) (hi := hi) a2 fun t ht => ⟨by have := a1 t ht; omega, (hb t (List.mem_cons_of_mem _ ht)).2⟩
    have := hb x List.mem_cons_self
    rw [List.length_cons]; omega
theorem tie_in {N : Net} (ok : N.ok) {a b t : Int} (h : isWay N a b) (ht : OnTie N a b t) : 0 ≤ t ∧ t < 60 := by
  obtain ⟨w1, w2, w3, w4, w5⟩ := h
  cases N with
  | line n => have h1 : a < n := w4; have h2 : b < n := w5; have h3 : n ≤ 60 := ok.2; have h4 : min a b ≤ t ∧ t < max a b := ht; omega
  | ring n => have h3 : n ≤ 60 := ok.2; have h4 : 0 ≤ t ∧ t < n ∧ _ := ht; omega
  | tree ps => have h3 : ps.length < 60 := ok.2.1; have h4 : 0 ≤ t ∧ t < (ps.length : Int) ∧ _ := ht; omega
theorem LainOf.small {N : Net} {ws : List (Int × Int)} {lain : List (List Int)} (h : LainOf N ws lain) (ok : N.ok) (hok : ∀ w ∈ ws, isWay N w.1 w.2) : ∀ l ∈ lain, l.length ≤ 60 := fun l hl => by
  obtain ⟨i, hi, e⟩ := List.getElem_of_mem hl
  obtain ⟨h1, h2⟩ := h
  have e1 : ws[i]? = some (ws[i]'(by omega)) := List.getElem?_eq_getElem (by omega)
  obtain ⟨s, m⟩ := h2 i _ l e1 (by rw [List.getElem?_eq_getElem hi, e])
  exact ss_len60 (lo := 0) (hi := 60) s fun t ht => tie_in ok (hok _ (List.mem_of_getElem? e1)) ((m t).mp ht)
def pr_clash (K : PySem.W.Frag) (v0 v1 v2 : V) (H : Hp) (Q : VK) (_ : XK) : Prop := ∃ (N : Net) (ws : List (Int × Int)) (hs : List Int), Dp K H v0 N.d ∧ N.ok ∧ Dp K H v1 (dPairs ws) ∧ ws.length ≤ 1000 ∧ (∀ w ∈ ws, isWay N w.1 w.2) ∧ Dp K H v2 (dInts hs) ∧ OutM (meetW N ws) ws.length hs H Q
def t_clash (K : PySem.W.Frag) : TS :=
  (tSeq (tDrop (tCall (sp_look_ways K) [] E0 (tCons (tVar 0) (tCons (tVar 1) tNil))))
    (tRet (tCall (sp_first_clash K) [] E0 (tCons (tLc (iList K (tVar 1)) (gName 3) tYes (tCall (sp_ties_on K) [] E0 (tCons (tVar 0) (tCons (tVar 3) tNil))) [3]) (tCons (tVar 2) tNil)))))
theorem pure_clash {v0 v1 v2 : V} {H : Hp} {Q : VK} {E : XK} (h : pr_clash K v0 v1 v2 H Q E) : t_clash K ⟨fun _ H' => Q .non H', Q, fun _ _ => False, fun _ _ => False⟩ [some v0, some v1, some v2, none] H := by
  obtain ⟨N, ws, hs, hd, ok, hw, hz, hok, hh, q0, q1, q2⟩ := h
  unfold t_clash
  wtm_at "s"
  refine ⟨_, _, rfl, N, ws, hd, ok, hw, by omega, hok, ?_⟩
  obtain ⟨b, xs, rfl, hb, hxs⟩ := dp_list hw
  wtm_at "s"
  refine lc_lainG (N := N) [] (fun _ z => by cases z) hb hxs hz (fun c w H' R hw' sm hc' hR => ?_) (fun _ => rfl) (fun D lain H1 nD s1 dD la => ?_)
  · wtm_at "s"
    exact ⟨_, _, rfl, N, w.1, w.2, dp_same sm hd, dp_of_pair hc', ok, hok w hw', fun p ns H'' np s' hp ti => hR p ns H'' np s' hp ti.srt ti.mem⟩
  wtm_at "s"
  refine ⟨_, _, rfl, lain, hs, meetW N ws, dp_same (hid_same _ _) dD, dp_same s1 hh, by rw [la.1]; omega, fun l hl => by have := la.small ok hok l hl; omega, fun i j hi hj => la.meet hi hj, ?_⟩
  rw [la.1]
  exact ⟨fun z p H' np sm e => q0 z p H' (s1.free np) (s1.trans sm) e, fun z1 z2 H' sm => q1 z1 z2 H' (s1.trans sm), fun i j z1 z2 p H' np sm e => q2 i j z1 z2 p H' (s1.free np) (s1.trans sm) e⟩
abbrev sp_clash (K : PySem.W.Frag) : Sp := fun vs H Q E => ∃ v0 v1 v2, vs = [v0, v1, v2] ∧ pr_clash K v0 v1 v2 H Q E
theorem ok_clash (T : Txt K mg A) : FnOk P w K mg base CX0 5 A.a_clash A.d_clash ["net", "ways", "hues"] (sp_clash K) := by
  refine T.F_clash.ok sc_clash (fun vs H Q E h => by obtain ⟨v0, v1, v2, rfl, _⟩ := h; rfl) (fun cdv A0 outer s H vs Q E hr h => ?_)
  obtain ⟨v0, v1, v2, rfl, h⟩ := h
  exact ⟨t_clash K, (pss_cons (ps_expr (pe_call (ok_look_ways T) (hr.mono (by decide)) (by rfl) T.g_look_ways T.F_look_ways.kp T.b_look_ways .nil pass0 (pa_cons (pv 0) (pa_cons (pv 1) pa_nil))))
      (pss_one (ps_ret (pe_call (ok_first_clash T) (hr.mono (by decide)) (by rfl) T.g_first_clash T.F_first_clash.kp T.b_first_clash .nil pass0 (pa_cons (pe_lc (own := [("way", 3)]) (by rfl) sc_clash.nd (pi_list (pv 1)) (blkOk_by (own := [("way", 3)]) (N := ["net", "ways", "hues", "way"]) (sc := defScope s_clash) (by decide +kernel)) (fun _ _ _ _ _ => (pg_name (i := 3) sc_clash.nd rfl (Or.inl rfl))) (fun _ _ _ _ _ => pts_nil) (fun _ _ _ _ _ => (pe_call (ok_ties_on T) (hr.mono (by decide)) (by rfl) T.g_ties_on T.F_ties_on.kp T.b_ties_on .nil pass0 (pa_cons (pv 0) (pa_cons (pv 3) pa_nil))))) (pa_cons (pv 2) pa_nil)))))), pure_clash h⟩


/-- right hues of just h unlike ones -/
def AreH (N : Net) (ws : List (Int × Int)) (dh dhs : PyData) : Prop := wholeD dh = true ∧ ∃ hs : List Int, dhs = dInts hs ∧ hs.length = ws.length ∧ (∀ i j, ¬ BadM (meetW N ws) ws.length hs i j) ∧ (Cm.unl hs : Int) = intD dh
theorem whole_all : ∀ {ds : List PyData}, (∀ d ∈ ds, wholeD d = true) → ds = (ds.map intD).map PyData.int
  | [], _ => rfl
  | d :: r, h => by
    rw [List.map_cons, List.map_cons, ← whole_all (ds := r) fun x hx => h x (List.mem_cons_of_mem _ hx), ← whole_int (h d List.mem_cons_self)]
theorem dints_eq {hs hs' : List Int} (e : PyData.list (hs.map PyData.int) = dInts hs') : hs = hs' := by
  have e' : hs.map PyData.int = hs'.map PyData.int := by injection e
  have := congrArg (List.map intD) e'
  rwa [List.map_map, List.map_map, show intD ∘ PyData.int = id from rfl, List.map_id, List.map_id] at this
def pr_are_hues (K : PySem.W.Frag) (v0 v1 v2 v3 : V) (H : Hp) (Q : VK) (_ : XK) : Prop := ∃ (N : Net) (ws : List (Int × Int)) (dh dhs : PyData), Dp K H v0 N.d ∧ N.ok ∧ Dp K H v1 (dPairs ws) ∧ ws.length ≤ 1000 ∧ (∀ w ∈ ws, isWay N w.1 w.2) ∧ Dp K H v2 dh ∧ Dp K H v3 dhs ∧
  ∀ b H', Same H H' → (b = true ↔ AreH N ws dh dhs) → Q (.bl b) H'
def t_are_hues (K : PySem.W.Frag) : TS :=
  (tSeq (tIfS (tOr (tNot (tB (tCall (sp_is_whole K) [] E0 (tCons (tVar 2) tNil)))) (tOr (tNot (tB (tCB (rIsi K) (tCons (tVar 3) (tCons (tC (.ty "list")) tNil))))) (tTest (tOp rNe (tCB (rLenX K) (tCons (tVar 3) tNil)) (tCB (rLenX K) (tCons (tVar 1) tNil)))))) (tRet (tC (.bl false))) tNext)
    (tSeq (tFor (iList K (tVar 3)) (gName 4)
      (tIfS (tNot (tB (tCall (sp_is_whole K) [] E0 (tCons (tVar 4) tNil)))) (tRet (tC (.bl false))) tNext))
    (tRet (tAndV (tOp xIsN (tCall (sp_clash K) [] E0 (tCons (tVar 0) (tCons (tVar 1) (tCons (tVar 3) tNil)))) (tC .non)) (tOp (rEqD K) (tLenU K (tVar 3)) (tVar 2))))))
theorem pure_are_hues {v0 v1 v2 v3 : V} {H : Hp} {Q : VK} {E : XK} (hh : pr_are_hues K v0 v1 v2 v3 H Q E) : t_are_hues K ⟨fun _ H' => Q .non H', Q, fun _ _ => False, fun _ _ => False⟩ [some v0, some v1, some v2, some v3, none] H := by
  obtain ⟨N, ws, dh, dhs, d0, ok, d1, hz, hok, d2, d3, q⟩ := hh
  have no : ∀ H', Same H H' → ¬ AreH N ws dh dhs → Q (.bl false) H' := fun H' s n => q false H' s ⟨(fun z => by cases z), fun z => absurd z n⟩
  obtain ⟨b, ys, rfl, hb, dys⟩ := dp_list d1
  have lys : ys.length = ws.length := by rw [dpa_len dys, List.length_map]
  unfold t_are_hues
  wtm_at "s"
  refine ⟨_, rfl, dh, d2, ?_⟩
  rcases (bcases (wholeD dh)).symm with c1 | c1
  · rw [c1]
    wtm_at "s"
    exact no H (Same.refl _) fun z => by rw [z.1] at c1; cases c1
  rw [c1]
  wtm_at "s"
  refine k_isiListD d3 ?_
  rcases (bcases (isD "list" dhs)).symm with c2 | c2
  · rw [c2]
    wtm_at "s"
    exact no H (Same.refl _) fun ⟨_, hs, e, _⟩ => by rw [e] at c2; cases c2
  obtain ⟨ds, rfl⟩ := isD_list c2
  rw [c2]
  obtain ⟨l, zs, rfl, hl, dzs⟩ := dp_list d3
  have lzs : zs.length = ds.length := dpa_len dzs
  wtm_at "s"
  refine k_itn (fun c3 => ?_) (fun c3 => ?_)
  · wtm_at "s"
    refine no H (Same.refl _) fun ⟨_, hs, e, e2, _⟩ => ?_
    cases e
    rw [List.length_map] at lzs
    omega
  wtm_at "s"
  refine forL hl (fun i σ' H' => H' = H ∧ (∃ k4, σ' = [some v0, some (.ref b), some v2, some (.ref l), k4]) ∧ ∀ j d, j < i → ds[j]? = some d → wholeD d = true) ⟨rfl, ⟨_, rfl⟩, fun j d hj => by omega⟩ (fun i σ' H' _ z => by rw [z.1]; exact hl) ?_ ?_
  · rintro i x σ' H1 hx ⟨rfl, ⟨k4, rfl⟩, ih⟩
    obtain ⟨d, hd, dd⟩ := dpa_get dzs hx
    wtm_at "s"
    refine ⟨_, rfl, d, dd, ?_⟩
    rcases (bcases (wholeD d)).symm with c4 | c4
    · rw [c4]
      wtm_at "s"
      refine no H1 (Same.refl _) fun ⟨_, hs, e, _⟩ => ?_
      cases e
      rw [List.getElem?_map] at hd
      obtain ⟨u, _, rfl⟩ := Option.map_eq_some_iff.mp hd
      cases c4
    · rw [c4]
      wtm_at "s"
      refine ⟨rfl, ⟨_, rfl⟩, fun j d' hj hd' => ?_⟩
      by_cases z : j = i
      · rw [z, hd] at hd'; cases hd'; exact c4
      · exact ih j d' (by omega) hd'
  · rintro σ' H1 ⟨rfl, ⟨k4, rfl⟩, ih⟩
    have e := whole_all (ds := ds) fun d hd => by
      obtain ⟨j, hj, e⟩ := List.mem_iff_getElem.mp hd
      exact ih j d (by omega) (by rw [List.getElem?_eq_getElem hj, e])
    generalize ds.map intD = hs at e
    subst e
    have ehs : zs = hs.map V.int := dpa_ints dzs
    have lhs : hs.length = ws.length := by rw [List.length_map] at lzs; omega
    wtm_at "s"
    refine ⟨_, _, _, rfl, N, ws, hs, d0, ok, d1, hz, hok, d3, fun n => absurd lhs n, fun _ ng H2 s2 => ?_, fun i j _ fm p H2 np s2 e2 => ?_⟩
    · have hl2 := s2.seq hl
      rw [ehs] at hl2
      have d22 := dp_same s2 d2
      wtm_at "s"
      refine ⟨l, hs, rfl, hl2, by omega, ?_⟩
      wtm_at "s"
      have ed := whole_int c1
      refine k_eqD (c := .int (Cm.unl hs : Nat)) (d := dh) (n := 1) (.int _) d22 sh_int (by rw [ed]; exact sh_int) (by decide) ?_
      refine q _ H2 s2 ?_
      have eb : PyData.eqv (.int (Cm.unl hs : Nat)) dh = decide ((Cm.unl hs : Int) = intD dh) := by
        rw [ed]
        show ((Cm.unl hs : Int) == intD dh) = decide ((Cm.unl hs : Int) = intD dh)
        by_cases z : (Cm.unl hs : Int) = intD dh
        · rw [decide_eq_true z, z]; simp
        · rw [decide_eq_false z]; simpa using z
      rw [eb, decide_eq_true_eq]
      constructor
      · exact fun z => ⟨c1, hs, rfl, lhs, ng, z⟩
      · rintro ⟨_, hs', e, _, _, z⟩
        rw [dints_eq e]; exact z
    · wtm_at "s"
      refine no H2 s2 fun ⟨_, hs', e, _, nb, _⟩ => ?_
      rw [← dints_eq e] at nb
      exact nb i j fm.1
abbrev sp_are_hues (K : PySem.W.Frag) : Sp := fun vs H Q E => ∃ v0 v1 v2 v3, vs = [v0, v1, v2, v3] ∧ pr_are_hues K v0 v1 v2 v3 H Q E
theorem ok_are_hues (T : Txt K mg A) : FnOk P w K mg base CX0 6 A.a_are_hues A.d_are_hues ["net", "ways", "h", "hues"] (sp_are_hues K) := by
  refine T.F_are_hues.ok sc_are_hues (fun vs H Q E h => by obtain ⟨v0, v1, v2, v3, rfl, _⟩ := h; rfl) (fun cdv A0 outer s H vs Q E hr h => ?_)
  obtain ⟨v0, v1, v2, v3, rfl, h⟩ := h
  exact ⟨t_are_hues K, (pss_cons (ps_if (PW.pt (pw_or (pt_not (pt_val (pe_call (ok_is_whole T) (hr.mono (by decide)) (by rfl) T.g_is_whole T.F_is_whole.kp T.b_is_whole .nil pass0 (pa_cons (pv 2) pa_nil)))) (pw_or (pt_not (pt_val (pe_callB q_isi (by rfl) T.z_isinstance (by decide +kernel) (pa_cons (pv 3) (pa_cons (pe_bltn (v := .ty "list") (by rfl) T.z_list (by decide +kernel) rfl) pa_nil))))) (pw_or1 (pt_cmpR op_ne (pe_callB q_len (by rfl) T.z_len (by decide +kernel) (pa_cons (pv 3) pa_nil)) (pe_callB q_len (by rfl) T.z_len (by decide +kernel) (pa_cons (pv 1) pa_nil)) (nomark _)))))) (pss_one (ps_ret pe_bl)) pss_nil)
      (pss_cons (ps_for PassesOwn.never rfl (pi_list (pv 3)) (pg_name (i := 4) sc_are_hues.nd rfl (Or.inl rfl))
      (pss_one (ps_if (pt_not (pt_val (pe_call (ok_is_whole T) (hr.mono (by decide)) (by rfl) T.g_is_whole T.F_is_whole.kp T.b_is_whole .nil pass0 (pa_cons (pv 4) pa_nil)))) (pss_one (ps_ret pe_bl)) pss_nil)))
      (pss_one (ps_ret (pe_and (pe_cmpR op_isN (pe_call (ok_clash T) (hr.mono (by decide)) (by rfl) T.g_clash T.F_clash.kp T.b_clash .nil pass0 (pa_cons (pv 0) (pa_cons (pv 1) (pa_cons (pv 3) pa_nil)))) pe_non (nomark _)) (pe_one (pe_cmpR (op_eqD hr.units) (pe_lenU (by rfl) (by rfl) T.z_len (by rfl) T.z_set (pv 3)) (pv 2) (nomark _)))))))), pure_are_hues h⟩


/-- a tie that bears h ways -/
def TieSh (N : Net) (ws : List (Int × Int)) (h : Int) (ds : List PyData) : Prop := ∃ x t, ds = [x, t] ∧ wholeD t = true ∧ 0 ≤ intD t ∧ intD t < N.ties ∧ (cnt N ws (intD t) : Int) = h
def pr_shows_tie (K : PySem.W.Frag) (v0 v1 v2 v3 : V) (H : Hp) (Q : VK) (_ : XK) : Prop := ∃ (N : Net) (ws : List (Int × Int)) (h : Int) (ds : List PyData), Dp K H v0 N.d ∧ N.ok ∧ Dp K H v1 (dPairs ws) ∧ ws.length ≤ 1000 ∧ (∀ w ∈ ws, isWay N w.1 w.2) ∧ v2 = .int h ∧ Dp K H v3 (.tuple ds) ∧
  ∀ b H', Same H H' → (b = true ↔ TieSh N ws h ds) → Q (.bl b) H'
def t_shows_tie (K : PySem.W.Frag) : TS :=
  (tSeq (tAsg (tCall (sp_loads K) [] E0 (tCons (tVar 0) (tCons (tVar 1) tNil))) (gName 4))
    (tSeq (tIfS (tOr (tTest (tOp rNe (tCB (rLenX K) (tCons (tVar 3) tNil)) (tC (.int 2)))) (tOr (tNot (tB (tCall (sp_is_whole K) [] E0 (tCons (tOp (rIxT K) (tVar 3) (tC (.int 1))) tNil)))) (tOr (tTest (tOp xLt (tOp (rIxT K) (tVar 3) (tC (.int 1))) (tC (.int 0)))) (tTest (tOp xGe (tOp (rIxT K) (tVar 3) (tC (.int 1))) (tCB (rLenX K) (tCons (tVar 4) tNil))))))) (tRet (tC (.bl false))) tNext)
    (tRet (tOp rEq (tOp (rIxL K) (tVar 4) (tOp (rIxT K) (tVar 3) (tC (.int 1)))) (tVar 2)))))
theorem pure_shows_tie {v0 v1 v2 v3 : V} {H : Hp} {Q : VK} {E : XK} (hh : pr_shows_tie K v0 v1 v2 v3 H Q E) : t_shows_tie K ⟨fun _ H' => Q .non H', Q, fun _ _ => False, fun _ _ => False⟩ [some v0, some v1, some v2, some v3, none] H := by
  obtain ⟨N, ws, h, ds, d0, ok, d1, hz, hok, rfl, d3, q⟩ := hh
  have no : ∀ H', Same H H' → ¬ TieSh N ws h ds → Q (.bl false) H' := fun H' s n => q false H' s ⟨(fun z => by cases z), fun z => absurd z n⟩
  obtain ⟨p, xs, rfl, hp, dx⟩ := dp_tup d3
  have lx := dpa_len dx
  unfold t_shows_tie
  wtm_at "s"
  refine ⟨_, _, rfl, N, ws, d0, ok, d1, by omega, hok, fun c H1 nc s1 e1 => ?_⟩
  have hp1 := same_seqT s1 hp
  wtm_at "s"
  refine k_lenT hp1 ?_
  wtm_at "s"
  refine k_itn (fun c1 => ?_) (fun c1 => ?_)
  · wtm_at "s"
    exact no H1 s1 fun ⟨x, t, e, _⟩ => by rw [e] at lx; exact c1 (by rw [lx]; rfl)
  obtain ⟨x, y, da, db, rfl, rfl, hx, hy⟩ := dpa2 dx (by omega)
  clear lx dx c1 d3
  wtm_at "s"
  refine ⟨_, rfl, db, dp_same s1 hy, ?_⟩
  rcases (bcases (wholeD db)).symm with c2 | c2
  · rw [c2]
    wtm_at "s"
    exact no H1 s1 fun ⟨x, t, e, w, _⟩ => by cases e; rw [w] at c2; cases c2
  obtain rfl := dp_whole hy c2
  rw [c2]
  wtm_at "s"
  refine k_it (fun c3 => ?_) (fun c3 => ?_)
  · wtm_at "s"
    exact no H1 s1 fun ⟨x, t, e, _, w, _⟩ => by cases e; omega
  wtm_at "s"
  refine k_it (fun c4 => ?_) (fun c4 => ?_)
  · wtm_at "s"
    refine no H1 s1 fun ⟨x, t, e, _, _, w, _⟩ => ?_
    cases e
    simp only [loadsOf, List.length_map, List.length_range] at c4
    omega
  have c4' : intD db < N.ties := by
    simp only [loadsOf, List.length_map, List.length_range] at c4
    omega
  wtm_at "s"
  refine k_ixI (sl e1) (by omega) (by unfold loadsOf; rw [List.length_map, List.length_range]; exact c4') ?_
  have eg : (loadsOf N ws).getD (intD db).toNat 0 = (cnt N ws (intD db) : Int) := by
    unfold loadsOf
    rw [List.getD_eq_getElem?_getD, List.getElem?_map, List.getElem?_range (by omega)]
    show ((cnt N ws ((intD db).toNat : Nat) : Nat) : Int) = _
    rw [show (((intD db).toNat : Nat) : Int) = intD db by omega]
  rw [eg]
  wtm_at "s"
  refine q _ H1 s1 ?_
  rw [decide_eq_true_eq]
  constructor
  · exact fun z => ⟨da, db, rfl, c2, by omega, c4', z⟩
  · rintro ⟨x, t, e, _, _, _, z⟩
    cases e
    exact z
abbrev sp_shows_tie (K : PySem.W.Frag) : Sp := fun vs H Q E => ∃ v0 v1 v2 v3, vs = [v0, v1, v2, v3] ∧ pr_shows_tie K v0 v1 v2 v3 H Q E
theorem ok_shows_tie (T : Txt K mg A) : FnOk P w K mg base CX0 6 A.a_shows_tie A.d_shows_tie ["net", "ways", "h", "paper"] (sp_shows_tie K) := by
  refine T.F_shows_tie.ok sc_shows_tie (fun vs H Q E h => by obtain ⟨v0, v1, v2, v3, rfl, _⟩ := h; rfl) (fun cdv A0 outer s H vs Q E hr h => ?_)
  obtain ⟨v0, v1, v2, v3, rfl, h⟩ := h
  exact ⟨t_shows_tie K, (pss_cons (ps_set (i := 4) sc_shows_tie.nd rfl (Or.inl rfl) (pe_call (ok_loads T) (hr.mono (by decide)) (by rfl) T.g_loads T.F_loads.kp T.b_loads .nil pass0 (pa_cons (pv 0) (pa_cons (pv 1) pa_nil))))
      (pss_cons (ps_if (PW.pt (pw_or (pt_cmpR op_ne (pe_callB q_len (by rfl) T.z_len (by decide +kernel) (pa_cons (pv 3) pa_nil)) pe_int (nomark _)) (pw_or (pt_not (pt_val (pe_call (ok_is_whole T) (hr.mono (by decide)) (by rfl) T.g_is_whole T.F_is_whole.kp T.b_is_whole .nil pass0 (pa_cons (pe_ix ix_tup (pv 3) pe_int (fun _ _ => rfl)) pa_nil)))) (pw_or (pt_cmpR op_lt (pe_ix ix_tup (pv 3) pe_int (fun _ _ => rfl)) pe_int (nomark _)) (pw_or1 (pt_cmpR op_ge (pe_ix ix_tup (pv 3) pe_int (fun _ _ => rfl)) (pe_callB q_len (by rfl) T.z_len (by decide +kernel) (pa_cons (pv 4) pa_nil)) (nomark _))))))) (pss_one (ps_ret pe_bl)) pss_nil)
      (pss_one (ps_ret (pe_cmpR op_eq (pe_ix ix_list (pv 4) (pe_ix ix_tup (pv 3) pe_int (fun _ _ => rfl)) (fun _ _ => rfl)) (pv 2) (nomark _)))))), pure_shows_tie h⟩


def pr_must_be_crossing (K : PySem.W.Frag) (v0 : V) (H : Hp) (Q : VK) (_ : XK) : Prop := ∃ (many : Int) (ps : List (Int × Int)), Dp K H v0 (.tuple [.int many, dPairs ps]) ∧ (0 ≤ many ∧ many ≤ 60 ∧ ps.length ≤ 60 ∧ ∀ p ∈ ps, 0 ≤ p.1 ∧ p.1 ≤ p.2 ∧ p.2 < many) ∧ Q .non H
def t_must_be_crossing (K : PySem.W.Frag) : TS :=
  (tSeq (tAsg (tVar 0) (gTup K 2 (gCons (gName 1) (gCons (gName 2) gNil))))
    (tSeq (tIfS (tOr (tTest (tOp xLt (tVar 1) (tC (.int 0)))) (tOr (tTest (tOp xGt (tVar 1) (tC (.int 60)))) (tTest (tOp xGt (tCB (rLenX K) (tCons (tVar 2) tNil)) (tC (.int 60)))))) tNever tNext)
    (tFor (iList K (tVar 2)) (gTup K 2 (gCons (gName 3) (gCons (gName 4) gNil)))
      (tIfS (tOr (tTest (tOp xLt (tVar 3) (tC (.int 0)))) (tOr (tTest (tOp xGt (tVar 3) (tVar 4))) (tTest (tOp xGe (tVar 4) (tVar 1))))) tNever tNext))))
theorem pure_must_be_crossing {v0 : V} {H : Hp} {Q : VK} {E : XK} (hh : pr_must_be_crossing K v0 H Q E) : t_must_be_crossing K ⟨fun _ H' => Q .non H', Q, fun _ _ => False, fun _ _ => False⟩ [some v0, none, none, none, none] H := by
  obtain ⟨many, ps, d0, ⟨k0, k1, k2, k3⟩, q⟩ := hh
  obtain ⟨a, x, y, rfl, hs, hx, hy⟩ := dp_tup2 d0
  obtain rfl := dp_int hx
  obtain ⟨b, ys, rfl, hb, hys⟩ := dp_list hy
  have ly : ys.length = ps.length := by rw [dpa_len hys, List.length_map]
  unfold t_must_be_crossing
  wtm_at "s"
  refine forL hb (fun i σ' H' => H' = H ∧ ∃ k3 k4, σ' = [some (.ref a), some (.int many), some (.ref b), k3, k4]) ⟨rfl, _, _, rfl⟩ (fun i σ' H' _ e => e.1 ▸ hb) ?_ (fun σ' H' ⟨e, _⟩ => e ▸ q)
  rintro i x σ' H' hxi ⟨rfl, k3', k4, rfl⟩
  obtain ⟨p, c, hp, rfl, hc⟩ := dpairs_get hys hxi
  obtain ⟨p1, p2, p3⟩ := k3 p (List.mem_of_getElem? hp)
  wtm_at "s"
  exact ⟨rfl, _, _, rfl⟩
abbrev sp_must_be_crossing (K : PySem.W.Frag) : Sp := fun vs H Q E => ∃ v0, vs = [v0] ∧ pr_must_be_crossing K v0 H Q E
theorem ok_must_be_crossing (T : Txt K mg A) : FnOk P w K mg base CX0 1 A.a_must_be_crossing A.d_must_be_crossing ["crossing"] (sp_must_be_crossing K) := by
  refine T.F_must_be_crossing.ok sc_must_be_crossing (fun vs H Q E h => by obtain ⟨v0, rfl, _⟩ := h; rfl) (fun cdv A0 outer s H vs Q E hr h => ?_)
  obtain ⟨v0, rfl, h⟩ := h
  exact ⟨t_must_be_crossing K, (pss_cons (ps_asg (pv 0) (pg_tup (by rfl) (pgs_cons (pg_name (i := 1) sc_must_be_crossing.nd rfl (Or.inl rfl)) (pgs_cons (pg_name (i := 2) sc_must_be_crossing.nd rfl (Or.inl rfl)) pgs_nil))))
      (pss_cons (ps_if (PW.pt (pw_or (pt_cmpR op_lt (pv 1) pe_int (nomark _)) (pw_or (pt_cmpR op_gt (pv 1) (pe_glob (v := .int 60) (by rfl) T.c_MOST_TIES ⟨_, rfl⟩) (nomark _)) (pw_or1 (pt_cmpR op_gt (pe_callB q_len (by rfl) T.z_len (by decide +kernel) (pa_cons (pv 2) pa_nil)) (pe_glob (v := .int 60) (by rfl) T.c_MOST_PAIRS ⟨_, rfl⟩) (nomark _)))))) (pss_one ps_never) pss_nil)
      (pss_one (ps_for PassesOwn.never rfl (pi_list (pv 2)) (pg_tup (by rfl) (pgs_cons (pg_name (i := 3) sc_must_be_crossing.nd rfl (Or.inl rfl)) (pgs_cons (pg_name (i := 4) sc_must_be_crossing.nd rfl (Or.inl rfl)) pgs_nil)))
      (pss_one (ps_if (PW.pt (pw_or (pt_cmpR op_lt (pv 3) pe_int (nomark _)) (pw_or (pt_cmpR op_gt (pv 3) (pv 4) (nomark _)) (pw_or1 (pt_cmpR op_ge (pv 4) (pv 1) (nomark _)))))) (pss_one ps_never) pss_nil)))))), pure_must_be_crossing h⟩
abbrev dCr (many : Int) (ps : List (Int × Int)) : PyData := .tuple [.int many, dPairs ps]
/-- a crossing -/
def CrOk (many : Int) (ps : List (Int × Int)) : Prop := 0 ≤ many ∧ many ≤ 60 ∧ ps.length ≤ 60 ∧ ∀ p ∈ ps, 0 ≤ p.1 ∧ p.1 ≤ p.2 ∧ p.2 < many
theorem dp_cr {H : Hp} {v : V} {many : Int} {ps : List (Int × Int)} (h : Dp K H v (dCr many ps)) : ∃ a b ys, v = .ref a ∧ SqT K H a [.int many, .ref b] ∧ SqL K H b ys ∧ DpAll K H ys (ps.map dPair) ∧ ys.length = ps.length := by
  obtain ⟨a, x, y, rfl, hs, hx, hy⟩ := dp_tup2 h
  obtain rfl := dp_int hx
  obtain ⟨b, ys, rfl, hb, hys⟩ := dp_list hy
  exact ⟨a, b, ys, rfl, hs, hb, hys, by rw [dpa_len hys, List.length_map]⟩
def LotOk (n : Int) (ns : List Int) : Prop := 3 ≤ ns.length ∧ ns.length % 2 = 1 ∧ (∀ x ∈ ns, 0 ≤ x ∧ x < n) ∧ ∀ i, i + 1 < ns.length → ns.getD i 0 < ns.getD (i + 1) 0
/-- what is no whole number -/
def oddV : V → Option V
  | .int _ => none
  | v => some v
theorem odd_of {K : PySem.W.Frag} {H : Hp} {v : V} {d : PyData} (h : Dp K H v d) (w : wholeD d = false) : oddV v = some v := by
  cases h with
  | int i => cases w
  | _ => rfl
def pr_is_lot (K : PySem.W.Frag) (v0 v1 : V) (H : Hp) (Q : VK) (_ : XK) : Prop := ∃ n ps D, Dp K H v0 (dCr n ps) ∧ Dp K H v1 D ∧ (∀ ds, D = .list ds → ds.length ≤ 1000) ∧ ∀ H' b, Same H H' → (b = true ↔ ∃ ns, D = dInts ns ∧ LotOk n ns) → Q (.bl b) H'
def t_is_lot (K : PySem.W.Frag) : TS :=
  (tSeq (tIfS (tOr (tNot (tB (tCB (rIsi K) (tCons (tVar 1) (tCons (tC (.ty "list")) tNil))))) (tTest (tOp xGt (tCB (rLenX K) (tCons (tLc (iList K (tVar 1)) (gName 2) (tOr (tB (tCB (rIsi K) (tCons (tVar 2) (tCons (tC (.ty "bool")) tNil)))) (tNot (tB (tCB (rIsi K) (tCons (tVar 2) (tCons (tC (.ty "int")) tNil)))))) (tVar 2) [2]) tNil)) (tC (.int 0))))) (tRet (tC (.bl false))) tNext)
    (tSeq (tIfS (tOr (tTest (tOp xLt (tCB (rLenX K) (tCons (tVar 1) tNil)) (tC (.int 3)))) (tOr (tTest (tOp rEq (tOp xMod (tCB (rLenX K) (tCons (tVar 1) tNil)) (tC (.int 2))) (tC (.int 0)))) (tOr (tTest (tOp xLt (tCB (rMin K) (tCons (tVar 1) tNil)) (tC (.int 0)))) (tTest (tOp xGe (tCB (rMax K) (tCons (tVar 1) tNil)) (tOp (rIxT K) (tVar 0) (tC (.int 0)))))))) (tRet (tC (.bl false))) tNext)
    (tRet (tOp rEq (tCB (rLenX K) (tCons (tLc (iRng2 (tCons (tC (.int 1)) (tCons (tCB (rLenX K) (tCons (tVar 1) tNil)) tNil))) (gName 2) (tTest (tOp xLe (tOp (rIxL K) (tVar 1) (tVar 2)) (tOp (rIxL K) (tVar 1) (tOp xSub (tVar 2) (tC (.int 1)))))) (tVar 2) [2]) tNil)) (tC (.int 0))))))
theorem pure_is_lot {v0 v1 : V} {H : Hp} {Q : VK} {E : XK} (h : pr_is_lot K v0 v1 H Q E) : t_is_lot K ⟨fun _ H' => Q .non H', Q, fun _ _ => False, fun _ _ => False⟩ [some v0, some v1, none] H := by
  obtain ⟨n, ps, D0, hc, hn, hzl, q0⟩ := h
  obtain ⟨a, x, y, rfl, hs, hx, hy⟩ := dp_tup2 hc
  obtain rfl := dp_int hx
  have no : ∀ H', Same H H' → (¬ ∃ ns, D0 = dInts ns) → Q (.bl false) H' := fun H' s n => q0 H' false s ⟨(fun z => by cases z), fun ⟨ns, e, _⟩ => absurd ⟨ns, e⟩ n⟩
  unfold t_is_lot
  wtm_at "s"
  refine k_isiListD hn ?_
  rcases (bcases (isD "list" D0)).symm with c0 | c0
  · rw [c0]
    wtm_at "s"
    exact no H (Same.refl _) fun ⟨ns, e⟩ => by rw [e] at c0; cases c0
  obtain ⟨ds, rfl⟩ := isD_list c0
  rw [c0]
  obtain ⟨b, zs, rfl, hb0, dzs⟩ := dp_list hn
  have hz0 := hzl ds rfl
  have lzs := dpa_len dzs
  wtm_at "s"
  refine lc_pure hb0 zs rfl (by omega) oddV ?_ ?_
  · intro i x p H' hx hp sm R R0 h1 h2
    rw [hp] at hx
    cases hx
    obtain ⟨d, hd, dd⟩ := dpa_get dzs hp
    have dd' := dp_same sm dd
    wtm_at "s"
    refine k_isiBoolD dd' ?_
    rcases (bcases (isD "bool" d)).symm with b1 | b1
    · rw [b1]
      wtm_at "s"
      refine k_isiIntD dd' ?_
      rw [b1, Bool.or_false]
      rcases (bcases (isD "int" d)).symm with b2 | b2
      · rw [b2]
        wtm_at "s"
        exact h1 _ (odd_of dd (by cases d <;> first | rfl | (simp [isD, tyD] at b2)))
      · rw [b2]
        have w : wholeD d = true := by cases d <;> first | rfl | (simp [isD, tyD] at b2)
        obtain rfl := dp_whole dd w
        wtm_at "s"
        exact h2 rfl
    · rw [b1]
      wtm_at "s"
      exact h1 _ (odd_of dd (by cases d <;> first | rfl | (simp [isD, tyD] at b1)))
  intro D H1 nD sm hD
  by_cases hall : ∀ d ∈ ds, wholeD d = true
  · have e := whole_all hall
    generalize ds.map intD = ns at e
    subst e
    obtain rfl : zs = ns.map V.int := dpa_ints dzs
    have hz : ns.length ≤ 1000 := by rw [List.length_map] at hz0; exact hz0
    have hb : SqL K H b (ns.map V.int) := hb0
    have q : ∀ H' b, Same H H' → (b = true ↔ LotOk n ns) → Q (.bl b) H' := fun H' b s e => q0 H' b s (e.trans ⟨fun z => ⟨ns, rfl, z⟩, fun ⟨ns', e, z⟩ => by rw [dints_eq e]; exact z⟩)
    have e0 : List.filterMap oddV (ns.map V.int) = [] := List.filterMap_eq_nil_iff.mpr fun v hv => by obtain ⟨k, _, rfl⟩ := List.mem_map.mp hv; rfl
    clear hall q0 no dzs hzl hz0 lzs c0
    rw [e0] at hD
    wtm_at "s"
    refine k_it (fun c1 => ?_) (fun c1 => ?_)
    · wtm_at "s"
      exact q _ _ sm (ff_iff fun z => absurd z.1 (by omega))
    wtm_at "s"
    refine k_it (fun c2 => ?_) (fun c2 => ?_)
    · wtm_at "s"
      exact q _ _ sm (ff_iff fun z => absurd z.2.1 (by omega))
    wtm_at "s"
    refine k_min (sm.seq hb) (by omega) (fun m1 hm1 hm2 => ?_)
    wtm_at "s"
    refine k_it (fun c3 => ?_) (fun c3 => ?_)
    · wtm_at "s"
      exact q _ _ sm (ff_iff fun z => absurd (z.2.2.1 m1 hm1).1 (by omega))
    wtm_at "s"
    refine k_max (sm.seq hb) (by omega) (fun m2 hm3 hm4 => ?_)
    wtm_at "s"
    refine k_it (fun c4 => ?_) (fun c4 => ?_)
    · wtm_at "s"
      exact q _ _ sm (ff_iff fun z => absurd (z.2.2.1 m2 hm3).2 (by omega))
    wtm_at "s"
    have hb1 := sm.seq hb
    refine lc_pureR (by omega) (fun i => if ns.getD (i + 1) 0 ≤ ns.getD i 0 then some (.int (1 + (i : Nat))) else none) ?_ ?_
    · intro i H' hi sm' R R0 h1 h2
      wtm_at "s"
      refine k_ixI (sm'.seq hb1) (by omega) (by omega) ?_
      wtm_at "s"
      refine k_ixI (sm'.seq hb1) (by omega) (by omega) ?_
      wtm_at "s"
      rw [show (1 + (i : Int)).toNat = i + 1 by omega, show (1 + (i : Int) - 1).toNat = i by omega]
      refine k_it (fun c => ?_) (fun c => ?_)
      · wtm_at "s"
        exact h1 _ (if_pos c)
      · exact h2 (if_neg c)
    intro D2 H2 nD2 sm2 hD2
    wtm_at "s"
    refine q _ _ (sm.trans sm2) ?_
    simp only [decide_eq_true_eq]
    constructor
    · intro e
      refine ⟨by omega, by omega, fun x hx => ⟨?_, ?_⟩, fun i hi => ?_⟩
      · have := hm2 x hx; omega
      · have := hm4 x hx; omega
      · have e1 : ∀ x ∈ List.range (↑ns.length - 1 : Int).toNat, (if ns.getD (x + 1) 0 ≤ ns.getD x 0 then some (V.int (1 + (x : Nat))) else none) = none := by
          have : (List.filterMap (fun i => if ns.getD (i + 1) 0 ≤ ns.getD i 0 then some (V.int (1 + (i : Nat))) else none) (List.range (↑ns.length - 1 : Int).toNat)) = [] := List.eq_nil_of_length_eq_zero (by omega)
          exact List.filterMap_eq_nil_iff.mp this
        have e2 := e1 i (by simp; omega)
        by_cases c : ns.getD (i + 1) 0 ≤ ns.getD i 0
        · rw [if_pos c] at e2; cases e2
        · omega
    · intro z
      have : (List.filterMap (fun i => if ns.getD (i + 1) 0 ≤ ns.getD i 0 then some (V.int (1 + (i : Nat))) else none) (List.range (↑ns.length - 1 : Int).toNat)) = [] := by
        refine List.filterMap_eq_nil_iff.mpr fun i hi => if_neg ?_
        have := z.2.2.2 i (by simp at hi; omega)
        omega
      rw [this]; rfl
  · have pos : 0 < (List.filterMap oddV zs).length := by
      refine Nat.pos_of_ne_zero fun z => hall fun d hd => ?_
      have e := List.filterMap_eq_nil_iff.mp (List.eq_nil_of_length_eq_zero z)
      obtain ⟨i, hi, ed⟩ := List.mem_iff_getElem.mp hd
      obtain ⟨v, hv, dv⟩ := dpa_get2 dzs (show ds[i]? = some d by rw [List.getElem?_eq_getElem hi, ed])
      cases w : wholeD d with
      | true => rfl
      | false =>
        have := e v (List.mem_of_getElem? hv)
        rw [odd_of dv w] at this
        cases this
    wtm_at "s"
    exact no H1 sm fun ⟨ns, e⟩ => hall fun d hd => by
      have e' : ds = ns.map PyData.int := by injection e
      rw [e'] at hd
      obtain ⟨k, _, rfl⟩ := List.mem_map.mp hd
      rfl
abbrev sp_is_lot (K : PySem.W.Frag) : Sp := fun vs H Q E => ∃ v0 v1, vs = [v0, v1] ∧ pr_is_lot K v0 v1 H Q E
theorem ok_is_lot (T : Txt K mg A) : FnOk P w K mg base CX0 1 A.a_is_lot A.d_is_lot ["crossing", "lot"] (sp_is_lot K) := by
  refine T.F_is_lot.ok sc_is_lot (fun vs H Q E h => by obtain ⟨v0, v1, rfl, _⟩ := h; rfl) (fun cdv A0 outer s H vs Q E hr h => ?_)
  obtain ⟨v0, v1, rfl, h⟩ := h
  exact ⟨t_is_lot K, (pss_cons (ps_if (PW.pt (pw_or (pt_not (pt_val (pe_callB q_isi (by rfl) T.z_isinstance (by decide +kernel) (pa_cons (pv 1) (pa_cons (pe_bltn (v := .ty "list") (by rfl) T.z_list (by decide +kernel) rfl) pa_nil))))) (pw_or1 (pt_cmpR op_gt (pe_callB q_len (by rfl) T.z_len (by decide +kernel) (pa_cons (pe_lc (own := [("k", 2)]) (by rfl) sc_is_lot.nd (pi_list (pv 1)) (blkOk_by (own := [("k", 2)]) (N := ["crossing", "lot", "k"]) (sc := defScope s_is_lot) (by decide +kernel)) (fun _ _ _ _ _ => (pg_name (i := 2) sc_is_lot.nd rfl (Or.inl rfl))) (fun _ _ _ _ _ => (pts_one (PW.pt (pw_or (pt_val (pe_callB q_isi (by rfl) T.z_isinstance (by decide +kernel) (pa_cons (pv 2) (pa_cons (pe_bltn (v := .ty "bool") (by rfl) T.z_bool (by decide +kernel) rfl) pa_nil)))) (pw_or1 (pt_not (pt_val (pe_callB q_isi (by rfl) T.z_isinstance (by decide +kernel) (pa_cons (pv 2) (pa_cons (pe_bltn (v := .ty "int") (by rfl) T.z_int (by decide +kernel) rfl) pa_nil)))))))))) (fun _ _ _ _ _ => (pv 2))) pa_nil)) pe_int (nomark _))))) (pss_one (ps_ret pe_bl)) pss_nil)
      (pss_cons (ps_if (PW.pt (pw_or (pt_cmpR op_lt (pe_callB q_len (by rfl) T.z_len (by decide +kernel) (pa_cons (pv 1) pa_nil)) pe_int (nomark _)) (pw_or (pt_cmpR op_eq (pe_op op_mod (pe_callB q_len (by rfl) T.z_len (by decide +kernel) (pa_cons (pv 1) pa_nil)) pe_int) pe_int (nomark _)) (pw_or (pt_cmpR op_lt (pe_callB (cr_min (by rfl)) (by rfl) T.z_min (by decide +kernel) (pa_cons (pv 1) pa_nil)) pe_int (nomark _)) (pw_or1 (pt_cmpR op_ge (pe_callB (cr_max (by rfl)) (by rfl) T.z_max (by decide +kernel) (pa_cons (pv 1) pa_nil)) (pe_ix ix_tup (pv 0) pe_int (fun _ _ => rfl)) (nomark _))))))) (pss_one (ps_ret pe_bl)) pss_nil)
      (pss_one (ps_ret (pe_cmpR op_eq (pe_callB q_len (by rfl) T.z_len (by decide +kernel) (pa_cons (pe_lc (own := [("k", 2)]) (by rfl) sc_is_lot.nd (pi_range2 (by rfl) T.z_range (pa_cons pe_int (pa_cons (pe_callB q_len (by rfl) T.z_len (by decide +kernel) (pa_cons (pv 1) pa_nil)) pa_nil))) (blkOk_by (own := [("k", 2)]) (N := ["crossing", "lot", "k"]) (sc := defScope s_is_lot) (by decide +kernel)) (fun _ _ _ _ _ => (pg_name (i := 2) sc_is_lot.nd rfl (Or.inl rfl))) (fun _ _ _ _ _ => (pts_one (pt_cmpR op_le (pe_ix ix_list (pv 1) (pv 2) (fun _ _ => rfl)) (pe_ix ix_list (pv 1) (pe_op op_sub (pv 2) pe_int) (fun _ _ => rfl)) (nomark _)))) (fun _ _ _ _ _ => (pv 2))) pa_nil)) pe_int (nomark _)))))), pure_is_lot h⟩


def inLot (ns : List Int) (p : Int × Int) : Bool := decide (p.1 ≠ p.2 ∧ p.1 ∈ ns ∧ p.2 ∈ ns)
def within (ps : List (Int × Int)) (ns : List Int) : Nat := (ps.filter (inLot ns)).length
def bnd (ps : List (Int × Int)) (ns : List Int) : Int := ((within ps ns : Int) + (ns.length : Int) / 2 - 1) / ((ns.length : Int) / 2)
def pr_bound_of (K : PySem.W.Frag) (v0 v1 : V) (H : Hp) (Q : VK) (_ : XK) : Prop := ∃ n ps ns, Dp K H v0 (dCr n ps) ∧ Dp K H v1 (dInts ns) ∧ 2 ≤ ns.length ∧ ns.length ≤ 1000 ∧ ps.length ≤ 1000 ∧ ∀ H', Same H H' → Q (.int (bnd ps ns)) H'
def t_bound_of (K : PySem.W.Frag) : TS :=
  (tSeq (tAsg (tCB (rLenX K) (tCons (tLc (iList K (tOp (rIxT K) (tVar 0) (tC (.int 1)))) (gTup K 2 (gCons (gName 4) (gCons (gName 5) gNil))) (tAnd (tTest (tOp rNe (tVar 4) (tVar 5))) (tAnd (tTest (tOp (rIn K false) (tVar 4) (tVar 1))) (tTest (tOp (rIn K false) (tVar 5) (tVar 1))))) (tC (.int 1)) [4, 5]) tNil)) (gName 2))
    (tSeq (tAsg (tOp xDiv (tCB (rLenX K) (tCons (tVar 1) tNil)) (tC (.int 2))) (gName 3))
    (tRet (tOp xDiv (tOp xSub (tOp xAdd (tVar 2) (tVar 3)) (tC (.int 1))) (tVar 3)))))
theorem pure_bound_of {v0 v1 : V} {H : Hp} {Q : VK} {E : XK} (h : pr_bound_of K v0 v1 H Q E) : t_bound_of K ⟨fun _ H' => Q .non H', Q, fun _ _ => False, fun _ _ => False⟩ [some v0, some v1, none, none, none, none] H := by
  obtain ⟨n, ps, ns, hc, hn, hz0, hz, hz2, q⟩ := h
  obtain ⟨a, x, y, rfl, hs, hx, hy⟩ := dp_tup2 hc
  obtain rfl := dp_int hx
  obtain ⟨b, rfl, hb⟩ := dp_ints hn
  obtain ⟨c, xs, rfl, hcx, hxs⟩ := dp_list hy
  have hl := dpa_len hxs
  rw [List.length_map] at hl
  unfold t_bound_of
  wtm_at "s"
  refine lc_pure hcx ps hl (by omega) (fun p => if inLot ns p then some (.int 1) else none) ?_ ?_
  · intro i x p H' hx hp sm R R0 h1 h2
    obtain ⟨p', d, hp', rfl, hd⟩ := dpairs_get hxs hx
    rw [hp] at hp'
    cases hp'
    wtm_at "s"
    refine k_itn (fun c1 => ?_) (fun c1 => ?_)
    · wtm_at "s"
      refine k_it (fun c2 => ?_) (fun c2 => ?_)
      · wtm_at "s"
        refine k_it (fun c3 => ?_) (fun c3 => ?_)
        · wtm_at "s"
          exact h1 _ (if_pos (decide_eq_true ⟨c1, c2, c3⟩))
        · exact h2 (if_neg fun z => c3 (of_decide_eq_true z).2.2)
      · wtm_at "s"
        exact h2 (if_neg fun z => c2 (of_decide_eq_true z).2.1)
    · wtm_at "s"
      exact h2 (if_neg fun z => (of_decide_eq_true z).1 c1)
  intro D H1 nD sm hD
  have e1 : (ps.filterMap fun p => if inLot ns p then some (V.int 1) else none).length = within ps ns := by
    unfold within
    clear hD hl hxs hcx hy hc hz2 q
    induction ps with
    | nil => rfl
    | cons p r ih =>
      by_cases c : inLot ns p = true
      · rw [List.filterMap_cons, if_pos c, List.filter_cons, if_pos c]; simp [ih]
      · rw [List.filterMap_cons, if_neg c, List.filter_cons, if_neg c]; exact ih
  wtm_at "s"
  rw [e1]
  exact q _ sm
abbrev sp_bound_of (K : PySem.W.Frag) : Sp := fun vs H Q E => ∃ v0 v1, vs = [v0, v1] ∧ pr_bound_of K v0 v1 H Q E
theorem ok_bound_of (T : Txt K mg A) : FnOk P w K mg base CX0 1 A.a_bound_of A.d_bound_of ["crossing", "lot"] (sp_bound_of K) := by
  refine T.F_bound_of.ok sc_bound_of (fun vs H Q E h => by obtain ⟨v0, v1, rfl, _⟩ := h; rfl) (fun cdv A0 outer s H vs Q E hr h => ?_)
  obtain ⟨v0, v1, rfl, h⟩ := h
  exact ⟨t_bound_of K, (pss_cons (ps_set (i := 2) sc_bound_of.nd rfl (Or.inl rfl) (pe_callB q_len (by rfl) T.z_len (by decide +kernel) (pa_cons (pe_lc (own := [("s", 4), ("t", 5)]) (by rfl) sc_bound_of.nd (pi_list (pe_ix ix_tup (pv 0) pe_int (fun _ _ => rfl))) (blkOk_by (own := [("s", 4), ("t", 5)]) (N := ["crossing", "lot", "within", "half", "s", "t"]) (sc := defScope s_bound_of) (by decide +kernel)) (fun _ _ _ _ _ => (pg_tup (by rfl) (pgs_cons (pg_name (i := 4) sc_bound_of.nd rfl (Or.inl rfl)) (pgs_cons (pg_name (i := 5) sc_bound_of.nd rfl (Or.inl rfl)) pgs_nil)))) (fun _ _ _ _ _ => (pts_one (PW.pt (pw_and (pt_cmpR op_ne (pv 4) (pv 5) (nomark _)) (pw_and (pt_cmpR op_in_seq (pv 4) (pv 1) (by rfl)) (pw_and1 (pt_cmpR op_in_seq (pv 5) (pv 1) (by rfl)))))))) (fun _ _ _ _ _ => pe_int)) pa_nil)))
      (pss_cons (ps_set (i := 3) sc_bound_of.nd rfl (Or.inl rfl) (pe_op op_fdiv (pe_callB q_len (by rfl) T.z_len (by decide +kernel) (pa_cons (pv 1) pa_nil)) pe_int))
      (pss_one (ps_ret (pe_op op_fdiv (pe_op op_sub (pe_op op_add (pv 2) (pv 3)) pe_int) (pv 3)))))), pure_bound_of h⟩
def pr_lot_bound (K : PySem.W.Frag) (v0 v1 : V) (H : Hp) (Q : VK) (_ : XK) : Prop := ∃ n ps ns, Dp K H v0 (dCr n ps) ∧ Dp K H v1 (dInts ns) ∧ CrOk n ps ∧ LotOk n ns ∧ ns.length ≤ 1000 ∧ ∀ H', Same H H' → Q (.int (bnd ps ns)) H'
def t_lot_bound (K : PySem.W.Frag) : TS :=
  (tSeq (tDrop (tCall (sp_must_be_crossing K) [] E0 (tCons (tVar 0) tNil)))
    (tSeq (tIfS (tNot (tB (tCall (sp_is_lot K) [] E0 (tCons (tVar 0) (tCons (tVar 1) tNil))))) tNever tNext)
    (tRet (tCall (sp_bound_of K) [] E0 (tCons (tVar 0) (tCons (tVar 1) tNil))))))
theorem pure_lot_bound {v0 v1 : V} {H : Hp} {Q : VK} {E : XK} (h : pr_lot_bound K v0 v1 H Q E) : t_lot_bound K ⟨fun _ H' => Q .non H', Q, fun _ _ => False, fun _ _ => False⟩ [some v0, some v1] H := by
  obtain ⟨n, ps, ns, hc, hn, hok, hlot, hz, q⟩ := h
  unfold t_lot_bound
  wtm_at "s"
  refine ⟨_, rfl, n, ps, hc, hok, ?_⟩
  wtm_at "s"
  refine ⟨_, _, rfl, n, ps, dInts ns, hc, hn, (fun ds e => by cases e; rw [List.length_map]; exact hz), fun H1 b sm hb => ?_⟩
  obtain rfl := hb.mpr ⟨ns, rfl, hlot⟩
  wtm_at "s"
  refine ⟨_, _, rfl, n, ps, ns, dp_same sm hc, dp_same sm hn, ?_, hz, ?_, fun H2 sm2 => q _ (sm.trans sm2)⟩
  · have := hlot.1; omega
  · have := hok.2.2.1; omega
abbrev sp_lot_bound (K : PySem.W.Frag) : Sp := fun vs H Q E => ∃ v0 v1, vs = [v0, v1] ∧ pr_lot_bound K v0 v1 H Q E
theorem ok_lot_bound (T : Txt K mg A) : FnOk P w K mg base CX0 2 A.a_lot_bound A.d_lot_bound ["crossing", "lot"] (sp_lot_bound K) := by
  refine T.F_lot_bound.ok sc_lot_bound (fun vs H Q E h => by obtain ⟨v0, v1, rfl, _⟩ := h; rfl) (fun cdv A0 outer s H vs Q E hr h => ?_)
  obtain ⟨v0, v1, rfl, h⟩ := h
  exact ⟨t_lot_bound K, (pss_cons (ps_expr (pe_call (ok_must_be_crossing T) (hr.mono (by decide)) (by rfl) T.g_must_be_crossing T.F_must_be_crossing.kp T.b_must_be_crossing .nil pass0 (pa_cons (pv 0) pa_nil)))
      (pss_cons (ps_if (pt_not (pt_val (pe_call (ok_is_lot T) (hr.mono (by decide)) (by rfl) T.g_is_lot T.F_is_lot.kp T.b_is_lot .nil pass0 (pa_cons (pv 0) (pa_cons (pv 1) pa_nil))))) (pss_one ps_never) pss_nil)
      (pss_one (ps_ret (pe_call (ok_bound_of T) (hr.mono (by decide)) (by rfl) T.g_bound_of T.F_bound_of.kp T.b_bound_of .nil pass0 (pa_cons (pv 0) (pa_cons (pv 1) pa_nil))))))), pure_lot_bound h⟩


/-- the ties at a place -/
def hereB (ps : List Int) (p : Int) (k : Nat) : Bool := decide ((k : Int) + 1 = p) || decide (ps.getD k 0 = p)
def hereOf (ps : List Int) (p : Int) : List Int := ((List.range ps.length).filter (hereB ps p)).map fun k : Nat => (k : Int)
theorem here_fm (ps : List Int) (p : Int) : (List.range ps.length).filterMap (fun i => if hereB ps p i = true then some (V.int (0 + (i : Nat))) else none) = (hereOf ps p).map V.int := by
  unfold hereOf
  rw [List.map_map]
  induction (List.range ps.length) with
  | nil => rfl
  | cons x r ih =>
    by_cases c : hereB ps p x = true
    · rw [List.filterMap_cons, if_pos c, List.filter_cons, if_pos c]
      simp only [List.map_cons]
      rw [ih]
      simp
    · rw [List.filterMap_cons, if_neg c, List.filter_cons, if_neg c]
      exact ih
theorem here_srt (ps : List Int) (p : Int) : (hereOf ps p).Pairwise (· < ·) := by
  unfold hereOf
  exact List.pairwise_map.mpr ((List.pairwise_lt_range.filter _).imp fun h => by omega)
theorem here_len (ps : List Int) (p : Int) : (hereOf ps p).length ≤ ps.length := by
  unfold hereOf
  rw [List.length_map]
  exact Nat.le_trans (List.length_filter_le _ _) (by simp)
def pr_ties_at (K : PySem.W.Frag) (v0 v1 : V) (H : Hp) (Q : VK) (_ : XK) : Prop := ∃ (ps : List Int) (p : Int), v1 = .int p ∧ Dp K H v0 (Net.tree ps).d ∧ ps.length ≤ 1000 ∧ ∀ a H', H a = none → Same H H' → H' a = some (.lst ((hereOf ps p).map V.int)) → Q (.ref a) H'
def t_ties_at (K : PySem.W.Frag) : TS :=
  (tSeq (tAsg (tOp (rIxT K) (tVar 0) (tC (.int 1))) (gName 2))
    (tRet (tLc (iRng1 (tCons (tCB (rLenX K) (tCons (tVar 2) tNil)) tNil)) (gName 3) (tOr (tTest (tOp rEq (tOp xAdd (tVar 3) (tC (.int 1))) (tVar 1))) (tTest (tOp rEq (tOp (rIxL K) (tVar 2) (tVar 3)) (tVar 1)))) (tVar 3) [3])))
theorem pure_ties_at {v0 v1 : V} {H : Hp} {Q : VK} {E : XK} (h : pr_ties_at K v0 v1 H Q E) : t_ties_at K ⟨fun _ H' => Q .non H', Q, fun _ _ => False, fun _ _ => False⟩ [some v0, some v1, none, none] H := by
  obtain ⟨ps, p, rfl, hd, hz, q⟩ := h
  obtain ⟨a, y, rfl, hs, hy⟩ := dp_net hd
  obtain ⟨b, rfl, hb⟩ := dp_ints hy
  unfold t_ties_at
  wtm_at "s"
  rw [Int.toNat_natCast]
  refine lc_pureR (by omega) (fun i => if hereB ps p i = true then some (V.int (0 + (i : Nat))) else none) ?_ (fun D H' nD sm hD => ?_)
  · intro i H' hi sm R R0 h1 h2
    wtm_at "s"
    have e0 : (0 + (i : Int)).toNat = i := by omega
    refine k_it (fun c => ?_) (fun c => ?_)
    · wtm_at "s"
      exact h1 _ (by rw [if_pos]; unfold hereB; rw [decide_eq_true (show (i : Int) + 1 = p by omega)]; rfl)
    · wtm_at "s"
      refine k_ixI (by wtm_at "sq") (by omega) (by omega) ?_
      rw [e0]
      wtm_at "s"
      refine k_it (fun c2 => ?_) (fun c2 => ?_)
      · wtm_at "s"
        exact h1 _ (by rw [if_pos]; unfold hereB; rw [decide_eq_true c2, Bool.or_true])
      · exact h2 (by rw [if_neg]; unfold hereB; rw [decide_eq_false c2, decide_eq_false (show ¬ (i : Int) + 1 = p by omega)]; decide)
  · rw [here_fm] at hD
    exact q D H' nD sm hD
abbrev sp_ties_at (K : PySem.W.Frag) : Sp := fun vs H Q E => ∃ v0 v1, vs = [v0, v1] ∧ pr_ties_at K v0 v1 H Q E
theorem ok_ties_at (T : Txt K mg A) : FnOk P w K mg base CX0 1 A.a_ties_at A.d_ties_at ["net", "place"] (sp_ties_at K) := by
  refine T.F_ties_at.ok sc_ties_at (fun vs H Q E h => by obtain ⟨v0, v1, rfl, _⟩ := h; rfl) (fun cdv A0 outer s H vs Q E hr h => ?_)
  obtain ⟨v0, v1, rfl, h⟩ := h
  exact ⟨t_ties_at K, (pss_cons (ps_set (i := 2) sc_ties_at.nd rfl (Or.inr rfl) (pe_ix ix_tup (pv 0) pe_int (fun _ _ => rfl)))
      (pss_one (ps_ret (pe_lc (own := [("k", 3)]) (by rfl) sc_ties_at.nd (pi_range1 (by rfl) T.z_range (pa_cons (pe_callB q_len (by rfl) T.z_len (by decide +kernel) (pa_cons (pv 2) pa_nil)) pa_nil)) (blkOk_by (own := [("k", 3)]) (N := ["net", "place", "parents", "k"]) (sc := defScope s_ties_at) (by decide +kernel)) (fun _ _ _ _ _ => (pg_name (i := 3) sc_ties_at.nd rfl (Or.inl rfl))) (fun _ _ _ _ _ => (pts_one (PW.pt (pw_or (pt_cmpR op_eq (pe_op op_add (pv 3) pe_int) (pv 1) (nomark _)) (pw_or1 (pt_cmpR op_eq (pe_ix ix_list (pv 2) (pv 3) (fun _ _ => rfl)) (pv 1) (nomark _))))))) (fun _ _ _ _ _ => (pv 3)))))), pure_ties_at h⟩
/-- the numbers, among hs, of those of ts that are there -/
def someOf (hs ts : List Int) : List Int := (ts.filter fun t => decide (t ∈ hs)).map fun t => ((hs.idxOf t : Nat) : Int)
theorem k_indexI {K : PySem.W.Frag} {H : Hp} {Q : VK} {p : Addr} {ns : List Int} {x : Int} (hs : SqL K H p (ns.map V.int)) (hx : x ∈ ns) (h : Q (.int (ns.idxOf x : Nat)) H) : rIndex K (.ref p) [.int x] H Q := by
  have hl : ns.idxOf x < ns.length := List.idxOf_lt_length_of_mem hx
  have hg : ns[ns.idxOf x]? = some x := by rw [List.getElem?_eq_getElem hl, List.getElem_idxOf hl]
  refine k_indexV (z := .int x) hs rfl (flat_ints ns) (by rw [List.getElem?_map, hg]; rfl) (by show (x == x) = true; simp) (fun m z' hm hz => ?_) h
  rw [List.getElem?_map] at hz
  obtain ⟨y, hy, rfl⟩ := Option.map_eq_some_iff.mp hz
  show (y == x) = false
  have hml : m < ns.length := by omega
  have e : y = ns[m] := by rw [List.getElem?_eq_getElem hml] at hy; exact (Option.some.inj hy).symm
  rw [e]
  have := List.not_of_lt_findIdx (p := (· == x)) (xs := ns) hm
  simpa using this
theorem some_srt {hs ts : List Int} (h1 : hs.Pairwise (· < ·)) (h2 : ts.Pairwise (· < ·)) : (someOf hs ts).Pairwise (· < ·) := by
  unfold someOf
  refine List.pairwise_map.mpr ((h2.filter _).imp_of_mem fun {x y} hx hy hxy => ?_)
  have mx : x ∈ hs := by simpa using (List.mem_filter.mp hx).2
  have my : y ∈ hs := by simpa using (List.mem_filter.mp hy).2
  have lx := List.idxOf_lt_length_of_mem mx
  have ly := List.idxOf_lt_length_of_mem my
  have gx : hs[hs.idxOf x] = x := List.getElem_idxOf lx
  have gy : hs[hs.idxOf y] = y := List.getElem_idxOf ly
  rcases Nat.lt_trichotomy (hs.idxOf x) (hs.idxOf y) with c | c | c
  · omega
  · have : x = y := by rw [← gx, ← gy]; simp only [c]
    omega
  · have := List.pairwise_iff_getElem.mp h1 _ _ ly lx c
    rw [gx, gy] at this
    omega
theorem some_fm (hs ts : List Int) : ts.filterMap (fun t => if decide (t ∈ hs) = true then some (V.int (hs.idxOf t : Nat)) else none) = (someOf hs ts).map V.int := by
  unfold someOf
  rw [List.map_map]
  induction ts with
  | nil => rfl
  | cons x r ih =>
    by_cases c : decide (x ∈ hs) = true
    · rw [List.filterMap_cons, if_pos c, List.filter_cons, if_pos c]
      simp only [List.map_cons]
      rw [ih]
      rfl
    · rw [List.filterMap_cons, if_neg c, List.filter_cons, if_neg c]
      exact ih
/-- first and last of a rising list -/
def ends (ns : List Int) : Int × Int := (ns.headD 0, ns.getLastD 0)
theorem ends_min {ns : List Int} {m : Int} (h : ns.Pairwise (· < ·)) (hm : m ∈ ns) (hl : ∀ y ∈ ns, m ≤ y) : m = (ends ns).1 := by
  cases ns with
  | nil => cases hm
  | cons x r =>
    show m = x
    have := hl x List.mem_cons_self
    rcases List.mem_cons.mp hm with e | e
    · exact e
    · have := (List.pairwise_cons.mp h).1 m e; omega
theorem ends_max : ∀ {ns : List Int} {m : Int}, ns.Pairwise (· < ·) → m ∈ ns → (∀ y ∈ ns, y ≤ m) → m = (ends ns).2
  | [], _, _, hm, _ => by cases hm
  | [x], m, _, hm, _ => by
    show m = x
    simpa using hm
  | x :: y :: r, m, h, hm, hl => by
    obtain ⟨h1, h2⟩ := List.pairwise_cons.mp h
    have hy := hl y (by simp)
    have hx := h1 y List.mem_cons_self
    have hm' : m ∈ y :: r := by
      rcases List.mem_cons.mp hm with e | e
      · omega
      · exact e
    have := ends_max h2 hm' fun z hz => hl z (List.mem_cons_of_mem _ hz)
    rw [this]
    rfl
/-- the ties of a way on a tree, rising -/
def treeTies (ps : List Int) (w : Int × Int) : List Int := ((List.range ps.length).filter fun t => decide (below ps (t + 1) w.1.toNat ≠ below ps (t + 1) w.2.toNat)).map fun t : Nat => (t : Int)
theorem treeTies_srt (ps : List Int) (w : Int × Int) : (treeTies ps w).Pairwise (· < ·) := by
  unfold treeTies
  exact List.pairwise_map.mpr ((List.pairwise_lt_range.filter _).imp fun h => by omega)
theorem treeTies_mem {ps : List Int} {w : Int × Int} {t : Int} : t ∈ treeTies ps w ↔ OnTie (.tree ps) w.1 w.2 t := by
  unfold treeTies
  rw [List.mem_map]
  show _ ↔ 0 ≤ t ∧ t < ps.length ∧ below ps (t.toNat + 1) w.1.toNat ≠ below ps (t.toNat + 1) w.2.toNat
  constructor
  · rintro ⟨i, hi, rfl⟩
    obtain ⟨h1, h2⟩ := List.mem_filter.mp hi
    have := List.mem_range.mp h1
    exact ⟨by omega, by omega, by rw [Int.toNat_natCast]; exact of_decide_eq_true h2⟩
  · rintro ⟨h0, h1, h2⟩
    exact ⟨t.toNat, List.mem_filter.mpr ⟨List.mem_range.mpr (by omega), decide_eq_true h2⟩, by omega⟩
/-- what crossing_of tells of the first i ways -/
def wayAt (ps : List Int) (p : Int) (w : Int × Int) : List Int := someOf (hereOf ps p) (treeTies ps w)
def crPairs (ps : List Int) (p : Int) (ws : List (Int × Int)) : List (Int × Int) := ws.filterMap fun w => if wayAt ps p w = [] then none else some (ends (wayAt ps p w))
def crNums (ps : List Int) (p : Int) (ws : List (Int × Int)) (i : Nat) : List Int := ((List.range i).filter fun k => match ws[k]? with | some w => !decide (wayAt ps p w = []) | none => false).map fun k : Nat => (k : Int)
theorem crNums_succ {ps : List Int} {p : Int} {ws : List (Int × Int)} {i : Nat} {w : Int × Int} (h : ws[i]? = some w) : crNums ps p ws (i + 1) = crNums ps p ws i ++ if wayAt ps p w = [] then [] else [(i : Int)] := by
  unfold crNums
  rw [List.range_succ, List.filter_append, List.map_append]
  congr 1
  by_cases c : wayAt ps p w = [] <;> simp [h, c]
theorem crPairs_succ {ps : List Int} {p : Int} {ws : List (Int × Int)} {i : Nat} {w : Int × Int} (h : ws[i]? = some w) : crPairs ps p (ws.take (i + 1)) = crPairs ps p (ws.take i) ++ if wayAt ps p w = [] then [] else [ends (wayAt ps p w)] := by
  unfold crPairs
  rw [take_filterMap h]
  by_cases c : wayAt ps p w = []
  · rw [if_pos c, if_pos c]; rfl
  · rw [if_neg c, if_neg c]; rfl
/-- a crossing with its ways' numbers, all of it new -/
structure CrNew (K : PySem.W.Frag) (H H' : Hp) (p : Addr) (n : Int) (prs : List (Int × Int)) (nms : List Int) : Prop where
  same : Same H H'
  ex : ∃ q pl nl ys, H p = none ∧ H q = none ∧ H pl = none ∧ H nl = none ∧ pl ≠ nl ∧ H' p = some (.tup [.ref q, .ref nl]) ∧ H' q = some (.tup [.int n, .ref pl]) ∧ H' pl = some (.lst ys) ∧ (∀ S : List Addr, (∀ b ∈ S, H b ≠ none) → DpAll K (hid (pl :: nl :: S) H') ys (prs.map dPair)) ∧ H' nl = some (.lst (nms.map V.int))
abbrev dCrN (n : Int) (prs : List (Int × Int)) (nms : List Int) : PyData := .tuple [.tuple [.int n, dPairs prs], dInts nms]
theorem CrNew.dp {K : PySem.W.Frag} {H H' : Hp} {p : Addr} {n : Int} {prs : List (Int × Int)} {nms : List Int} (h : CrNew K H H' p n prs nms) : Dp K H' (.ref p) (dCrN n prs nms) := by
  obtain ⟨q, pl, nl, ys, _, _, _, _, _, h1, h2, h3, h4, h5⟩ := h.ex
  exact .tup (stp h1) (.cons (.tup (stp h2) (.cons (.int _) (.cons (.lst (sl h3) (dpa_same (hid_same _ _) (h4 [] (by simp)))) .nil))) (.cons (dp_of_ints (sl h5)) .nil))
/-- what is told lies in new places alone -/
theorem CrNew.dph {K : PySem.W.Frag} {H H' : Hp} {p : Addr} {n : Int} {prs : List (Int × Int)} {nms : List Int} (h : CrNew K H H' p n prs nms) {S : List Addr} (hS : ∀ b ∈ S, H b ≠ none) : Dp K (hid S H') (.ref p) (dCrN n prs nms) := by
  obtain ⟨q, pl, nl, ys, n1, n2, n3, n4, _, h1, h2, h3, h4, h5⟩ := h.ex
  have o : ∀ {b : Addr} {x : HO}, H b = none → H' b = some x → hid S H' b = some x := fun nb e => by rw [hid_ne fun z => hS _ z nb]; exact e
  exact .tup (stp (o n1 h1)) (.cons (.tup (stp (o n2 h2)) (.cons (.int _) (.cons (.lst (sl (o n3 h3)) (dpa_same (hid_sub fun a ha => by simp [ha]) (h4 S hS))) .nil))) (.cons (dp_of_ints (sl (o n4 h5))) .nil))
def pr_crossing_of (K : PySem.W.Frag) (v0 v1 v2 : V) (H : Hp) (Q : VK) (_ : XK) : Prop := ∃ (ps : List Int) (ws : List (Int × Int)) (x : Int), v2 = .int x ∧ Dp K H v0 (Net.tree ps).d ∧ TreeOk ps ∧ Dp K H v1 (dPairs ws) ∧ ws.length ≤ 1000 ∧ (∀ w ∈ ws, isWay (.tree ps) w.1 w.2) ∧
  ∀ p H', CrNew K H H' p (hereOf ps x).length (crPairs ps x ws) (crNums ps x ws ws.length) → Q (.ref p) H'
def t_crossing_of (K : PySem.W.Frag) : TS :=
  (tSeq (tAsg (tCall (sp_ties_at K) [] E0 (tCons (tVar 0) (tCons (tVar 2) tNil))) (gName 3))
    (tSeq (tAsg (tLst tNil) (gName 4))
    (tSeq (tAsg (tLst tNil) (gName 5))
    (tSeq (tFor (iRng1 (tCons (tCB (rLenX K) (tCons (tVar 1) tNil)) tNil)) (gName 6)
      (tSeq (tAsg (tLc (iList K (tCall (sp_ties_on K) [] E0 (tCons (tVar 0) (tCons (tOp (rIxL K) (tVar 1) (tVar 6)) tNil)))) (gName 8) (tTest (tOp (rIn K false) (tVar 8) (tVar 3))) (tBM K "list" (rIndex K) (tVar 3) (tCons (tVar 8) tNil)) [8]) (gName 7))
    (tIfS (tTest (tOp xGt (tCB (rLenX K) (tCons (tVar 7) tNil)) (tC (.int 0)))) (tSeq (tDrop (tBM K "list" rAppend (tVar 4) (tCons (tTup (tCons (tCB (rMin K) (tCons (tVar 7) tNil)) (tCons (tCB (rMax K) (tCons (tVar 7) tNil)) tNil))) tNil)))
    (tDrop (tBM K "list" rAppend (tVar 5) (tCons (tVar 6) tNil)))) tNext)))
    (tRet (tTup (tCons (tTup (tCons (tCB (rLenX K) (tCons (tVar 3) tNil)) (tCons (tVar 4) tNil))) (tCons (tVar 5) tNil))))))))
theorem pure_crossing_of {v0 v1 v2 : V} {H : Hp} {Q : VK} {E : XK} (h : pr_crossing_of K v0 v1 v2 H Q E) : t_crossing_of K ⟨fun _ H' => Q .non H', Q, fun _ _ => False, fun _ _ => False⟩ [some v0, some v1, some v2, none, none, none, none, none, none] H := by
  obtain ⟨ps, ws, x, rfl, hd, ok, hw, hz, hok, q⟩ := h
  obtain ⟨b, xs, rfl, hb, hxs⟩ := dp_list hw
  have hl := dpa_len hxs
  rw [List.length_map] at hl
  have hpl := ok.2.1
  unfold t_crossing_of
  wtm_at "s"
  refine ⟨_, _, rfl, ps, x, rfl, hd, by omega, fun he H1 nhe s1 ehe => ?_⟩
  wtm_at "s"
  refine kL (by simp) (fun pl H2 npl s2 epl => ?_)
  wtm_at "s"
  refine kL (by simp) (fun nl H3 nnl s3 enl => ?_)
  have npl0 : H pl = none := s1.free npl
  have nnl0 : H nl = none := (s1.trans s2).free nnl
  have pn : pl ≠ nl := fun e => by rw [← e, epl] at nnl; cases nnl
  have lh := here_len ps x
  wtm_at "s"
  rw [hl]
  refine forR (fun i σ' H' => Same H1 H' ∧ ∃ ys k6 k7, σ' = [some v0, some (.ref b), some (.int x), some (.ref he), some (.ref pl), some (.ref nl), k6, k7, none] ∧ H' pl = some (.lst ys) ∧ ys.length ≤ i ∧ (∀ S : List Addr, (∀ b ∈ S, H b ≠ none) → DpAll K (hid (pl :: nl :: S) H') ys ((crPairs ps x (ws.take i)).map dPair)) ∧ H' nl = some (.lst ((crNums ps x ws i).map V.int)) ∧ (crNums ps x ws i).length ≤ i)
    ⟨s2.trans s3, [], _, _, rfl, s3 _ _ epl, Nat.le_refl _, fun _ _ => .nil, enl, Nat.le_refl _⟩ ?_ ?_
  · rintro i σ' H4 hi ⟨s4, ys, k6, k7, rfl, hp4, ly, dy, hn4, ln⟩
    have hi' : i < xs.length := by omega
    obtain ⟨v, hx⟩ : ∃ v, xs[i]? = some v := ⟨xs[i], List.getElem?_eq_getElem hi'⟩
    obtain ⟨d, hd1, hd2⟩ := dpa_get hxs hx
    rw [List.getElem?_map] at hd1
    obtain ⟨w, hw1, rfl⟩ := Option.map_eq_some_iff.mp hd1
    have wok := hok w (List.mem_of_getElem? hw1)
    have tp := crPairs_succ (ps := ps) (p := x) hw1
    have tn := crNums_succ (ps := ps) (p := x) hw1
    wtm_at "s"
    refine k_ixL (by wtm_at "sq") (by rw [Int.zero_add]; exact atI_nat hx) ?_
    wtm_at "s"
    refine ⟨_, _, rfl, .tree ps, w.1, w.2, by wtm_at "dp", by wtm_at "dp", ok, wok, fun tl ts H5 ntl s5 etl tt => ?_⟩
    have ets : ts = treeTies ps w := ss_ext tt.srt (treeTies_srt ps w) fun t => (tt.mem t).trans treeTies_mem.symm
    subst ets
    have lts : (treeTies ps w).length < 120 := tt.far
    refine lc_pure (sl etl) (treeTies ps w) (by simp) (by omega) (fun t => if decide (t ∈ hereOf ps x) = true then some (V.int ((hereOf ps x).idxOf t : Nat)) else none) ?_ (fun D H6 nD s6 eD => ?_)
    · intro j z t H' hz ht sm R R0 h1 h2
      rw [List.getElem?_map, ht] at hz
      cases hz
      wtm_at "s"
      refine k_it (fun c => ?_) (fun c => ?_)
      · wtm_at "s"
        refine k_tyL (by wtm_at "sq") ?_
        wtm_at "s"
        refine k_indexI (by wtm_at "sq") c ?_
        exact h1 _ (by rw [if_pos (decide_eq_true c)])
      · exact h2 (by rw [if_neg (by simpa using c)])
    · rw [some_fm] at eD
      have srt := some_srt (here_srt ps x) (treeTies_srt ps w)
      have eD' : H6 D = some (.lst ((wayAt ps x w).map V.int)) := eD
      have srt' : (wayAt ps x w).Pairwise (· < ·) := srt
      have hp6 := (s5.trans s6) _ _ hp4
      have hn6 := (s5.trans s6) _ _ hn4
      have dy6 : ∀ S : List Addr, (∀ b ∈ S, H b ≠ none) → DpAll K (hid (pl :: nl :: S) H6) ys ((crPairs ps x (ws.take i)).map dPair) := fun S hS => dpa_same (hid_mono (s5.trans s6)) (dy S hS)
      have s16 : Same H1 H6 := s4.trans (s5.trans s6)
      clear eD srt
      wtm_at "s"
      generalize wayAt ps x w = so at eD' srt' tp tn ⊢
      refine k_it (fun c => ?_) (fun c => ?_)
      · have sne : so ≠ [] := fun e => by rw [e] at c; simp at c
        rw [if_neg sne] at tp tn
        wtm_at "s"
        refine k_tyL (sl hp6) ?_
        wtm_at "s"
        refine k_min (sl eD') (by omega) (fun m m1 m2 => ?_)
        wtm_at "s"
        refine k_max (sl eD') (by omega) (fun m' m1' m2' => ?_)
        have em : m = (ends so).1 := ends_min srt' m1 m2
        have em' : m' = (ends so).2 := ends_max srt' m1' m2'
        subst em em'
        wtm_at "s"
        refine kT (by simp) (fun t1 H7 nt1 s7 e7 => ?_)
        have hp7 := s7 _ _ hp6
        have hn7 := s7 _ _ hn6
        have t1p : t1 ≠ pl := fun e => by rw [e, hp6] at nt1; cases nt1
        have t1n : t1 ≠ nl := fun e => by rw [e, hn6] at nt1; cases nt1
        wtm_at "s"
        refine k_append hp7 (by omega) ?_
        wtm_at "s"
        have hn8 : upd H7 pl (.lst (ys ++ [.ref t1])) nl = some (.lst ((crNums ps x ws i).map V.int)) := by rw [upd_ne (fun e => pn e.symm)]; exact hn7
        refine k_tyL (sl hn8) ?_
        wtm_at "s"
        refine k_append hn8 (by simp; omega) ?_
        refine ⟨same_mut (same_mut (s16.trans s7) npl) ((s2.free nnl)), ys ++ [.ref t1], _, _, rfl, ?_, by simp; omega, ?_, ?_, by rw [tn]; simp; omega⟩
        · rw [upd_ne pn, upd_same]
        · intro S hS
          rw [hid_upd (by simp), hid_upd (by simp), tp, List.map_append]
          refine dpa_app (dpa_same (hid_mono s7) (dy6 S hS)) (.cons (dp_of_pair (stp ?_)) .nil)
          rw [hid_ne fun z => ?_]
          · exact e7
          · rcases List.mem_cons.mp z with z | z
            · exact t1p z
            · rcases List.mem_cons.mp z with z | z
              · exact t1n z
              · exact hS t1 z ((s1.trans s16).free nt1)
        · rw [upd_same, tn, List.map_append, Int.zero_add]; rfl
      · have se : so = [] := by
          cases so with
          | nil => rfl
          | cons z r => exact absurd (by simp : (0 : Int) < ((z :: r).length : Int)) c
        rw [if_pos se, List.append_nil] at tp tn
        wtm_at "s"
        refine ⟨s16, ys, _, _, rfl, hp6, by omega, fun S hS => by rw [tp]; exact dy6 S hS, by rw [tn]; exact hn6, by rw [tn]; omega⟩
  · rintro σ' H4 ⟨s4, ys, k6, k7, rfl, hp4, ly, dy, hn4, ln⟩
    rw [Int.toNat_natCast] at dy hn4
    rw [List.take_length] at dy
    wtm_at "s"
    refine kT (by simp) (fun cq H5 ncq s5 ecq => ?_)
    wtm_at "s"
    refine kT (by simp) (fun cp H6 ncp s6 ecp => ?_)
    have s16 : Same H1 H4 := s4
    exact q cp H6 ⟨by wtm_at "sm", cq, pl, nl, ys, ((s1.trans s4).trans s5).free ncp, (s1.trans s4).free ncq, npl0, nnl0, pn, ecp, s6 _ _ ecq, (s5.trans s6) _ _ hp4, fun S hS => dpa_same (hid_mono (s5.trans s6)) (dy S hS), (s5.trans s6) _ _ hn4⟩
abbrev sp_crossing_of (K : PySem.W.Frag) : Sp := fun vs H Q E => ∃ v0 v1 v2, vs = [v0, v1, v2] ∧ pr_crossing_of K v0 v1 v2 H Q E
theorem ok_crossing_of (T : Txt K mg A) : FnOk P w K mg base CX0 2 A.a_crossing_of A.d_crossing_of ["net", "ways", "place"] (sp_crossing_of K) := by
  refine T.F_crossing_of.ok sc_crossing_of (fun vs H Q E h => by obtain ⟨v0, v1, v2, rfl, _⟩ := h; rfl) (fun cdv A0 outer s H vs Q E hr h => ?_)
  obtain ⟨v0, v1, v2, rfl, h⟩ := h
  exact ⟨t_crossing_of K, (pss_cons (ps_set (i := 3) sc_crossing_of.nd rfl (Or.inr rfl) (pe_call (ok_ties_at T) (hr.mono (by decide)) (by rfl) T.g_ties_at T.F_ties_at.kp T.b_ties_at .nil pass0 (pa_cons (pv 0) (pa_cons (pv 2) pa_nil))))
      (pss_cons (ps_set (i := 4) sc_crossing_of.nd rfl (Or.inl rfl) (pe_lst pa_nil))
      (pss_cons (ps_set (i := 5) sc_crossing_of.nd rfl (Or.inl rfl) (pe_lst pa_nil))
      (pss_cons (ps_for PassesOwn.never rfl (pi_range1 (by rfl) T.z_range (pa_cons (pe_callB q_len (by rfl) T.z_len (by decide +kernel) (pa_cons (pv 1) pa_nil)) pa_nil)) (pg_name (i := 6) sc_crossing_of.nd rfl (Or.inl rfl))
      (pss_cons (ps_setLc (i := 7) (own := [("tie", 8)]) (by rfl) sc_crossing_of.nd rfl rfl (sw_true rfl rfl rfl (by decide +kernel)) (pi_list (pe_call (ok_ties_on T) (hr.mono (by decide)) (by rfl) T.g_ties_on T.F_ties_on.kp T.b_ties_on .nil pass0 (pa_cons (pv 0) (pa_cons (pe_ix ix_list (pv 1) (pv 6) (fun _ _ => rfl)) pa_nil)))) (blkOk_by (own := [("tie", 8)]) (N := ["net", "ways", "place", "here", "pairs", "numbers", "k", "some", "tie"]) (sc := defScope s_crossing_of) (by decide +kernel)) (fun _ _ _ _ _ => (pg_name (i := 8) sc_crossing_of.nd rfl (Or.inl rfl))) (fun _ _ _ _ _ => (pts_one (pt_cmpR op_in_seq (pv 8) (pv 3) (by rfl)))) (fun _ _ _ _ _ => (pe_bm PySem.F.plainAttrs_list PySem.F.slot_list_index PySem.F.type_list_index mt_index (pv 3) (pa_cons (pv 8) pa_nil))))
      (pss_one (ps_if (pt_cmpR op_gt (pe_callB q_len (by rfl) T.z_len (by decide +kernel) (pa_cons (pv 7) pa_nil)) pe_int (nomark _)) (pss_cons (ps_expr (pe_bm PySem.F.plainAttrs_list PySem.F.slot_list_append PySem.F.type_list_append mt_append (pv 4) (pa_cons (pe_tup (pa_cons (pe_callB (cr_min (by rfl)) (by rfl) T.z_min (by decide +kernel) (pa_cons (pv 7) pa_nil)) (pa_cons (pe_callB (cr_max (by rfl)) (by rfl) T.z_max (by decide +kernel) (pa_cons (pv 7) pa_nil)) pa_nil))) pa_nil)))
      (pss_one (ps_expr (pe_bm PySem.F.plainAttrs_list PySem.F.slot_list_append PySem.F.type_list_append mt_append (pv 5) (pa_cons (pv 6) pa_nil))))) pss_nil))))
      (pss_one (ps_ret (pe_tup (pa_cons (pe_tup (pa_cons (pe_callB q_len (by rfl) T.z_len (by decide +kernel) (pa_cons (pv 3) pa_nil)) (pa_cons (pv 4) pa_nil))) (pa_cons (pv 5) pa_nil))))))))), pure_crossing_of h⟩
def pr_crossing_at (K : PySem.W.Frag) (v0 v1 v2 : V) (H : Hp) (Q : VK) (_ : XK) : Prop := ∃ (ps : List Int) (ws : List (Int × Int)) (x : Int), v2 = .int x ∧ Dp K H v0 (Net.tree ps).d ∧ TreeOk ps ∧ Dp K H v1 (dPairs ws) ∧ ws.length ≤ 1000 ∧ (∀ w ∈ ws, isWay (.tree ps) w.1 w.2) ∧ 0 ≤ x ∧ x ≤ ps.length ∧
  ∀ p H', CrNew K H H' p (hereOf ps x).length (crPairs ps x ws) (crNums ps x ws ws.length) → Q (.ref p) H'
def t_crossing_at (K : PySem.W.Frag) : TS :=
  (tSeq (tDrop (tCall (sp_must_be_kind K) [] E0 (tCons (tVar 0) (tCons (tC (.str (Str.ofString "tree"))) tNil))))
    (tSeq (tDrop (tCall (sp_must_be_ways K) [] E0 (tCons (tVar 0) (tCons (tVar 1) tNil))))
    (tSeq (tIfS (tOr (tTest (tOp xLt (tVar 2) (tC (.int 0)))) (tTest (tOp xGe (tVar 2) (tCall (sp_places_of K) [] E0 (tCons (tVar 0) tNil))))) tNever tNext)
    (tRet (tCall (sp_crossing_of K) [] E0 (tCons (tVar 0) (tCons (tVar 1) (tCons (tVar 2) tNil))))))))
theorem pure_crossing_at {v0 v1 v2 : V} {H : Hp} {Q : VK} {E : XK} (h : pr_crossing_at K v0 v1 v2 H Q E) : t_crossing_at K ⟨fun _ H' => Q .non H', Q, fun _ _ => False, fun _ _ => False⟩ [some v0, some v1, some v2] H := by
  obtain ⟨ps, ws, x, rfl, hd, ok, hw, hz, hok, x0, x1, q⟩ := h
  unfold t_crossing_at
  wtm_at "s"
  refine ⟨_, _, rfl, .tree ps, hd, ok, rfl, ?_⟩
  wtm_at "s"
  refine ⟨_, _, rfl, .tree ps, ws, hd, hw, by omega, hok, ?_⟩
  wtm_at "s"
  refine ⟨_, rfl, .tree ps, hd, ?_⟩
  have hp : (Net.tree ps).places = ps.length + 1 := rfl
  rw [hp]
  wtm_at "s"
  exact ⟨_, _, _, rfl, ps, ws, x, rfl, hd, ok, hw, hz, hok, q⟩
abbrev sp_crossing_at (K : PySem.W.Frag) : Sp := fun vs H Q E => ∃ v0 v1 v2, vs = [v0, v1, v2] ∧ pr_crossing_at K v0 v1 v2 H Q E
theorem ok_crossing_at (T : Txt K mg A) : FnOk P w K mg base CX0 4 A.a_crossing_at A.d_crossing_at ["net", "ways", "place"] (sp_crossing_at K) := by
  refine T.F_crossing_at.ok sc_crossing_at (fun vs H Q E h => by obtain ⟨v0, v1, v2, rfl, _⟩ := h; rfl) (fun cdv A0 outer s H vs Q E hr h => ?_)
  obtain ⟨v0, v1, v2, rfl, h⟩ := h
  exact ⟨t_crossing_at K, (pss_cons (ps_expr (pe_call (ok_must_be_kind T) (hr.mono (by decide)) (by rfl) T.g_must_be_kind T.F_must_be_kind.kp T.b_must_be_kind .nil pass0 (pa_cons (pv 0) (pa_cons pe_str pa_nil))))
      (pss_cons (ps_expr (pe_call (ok_must_be_ways T) (hr.mono (by decide)) (by rfl) T.g_must_be_ways T.F_must_be_ways.kp T.b_must_be_ways .nil pass0 (pa_cons (pv 0) (pa_cons (pv 1) pa_nil))))
      (pss_cons (ps_if (PW.pt (pw_or (pt_cmpR op_lt (pv 2) pe_int (nomark _)) (pw_or1 (pt_cmpR op_ge (pv 2) (pe_call (ok_places_of T) (hr.mono (by decide)) (by rfl) T.g_places_of T.F_places_of.kp T.b_places_of .nil pass0 (pa_cons (pv 0) pa_nil)) (nomark _))))) (pss_one ps_never) pss_nil)
      (pss_one (ps_ret (pe_call (ok_crossing_of T) (hr.mono (by decide)) (by rfl) T.g_crossing_of T.F_crossing_of.kp T.b_crossing_of .nil pass0 (pa_cons (pv 0) (pa_cons (pv 1) (pa_cons (pv 2) pa_nil))))))))), pure_crossing_at h⟩


theorem lastD_mem : ∀ (r : List Int) (a : Int), r.getLastD a ∈ a :: r
  | [], a => List.mem_cons_self
  | b :: r, a => by rw [List.getLastD_cons]; exact List.mem_cons_of_mem _ (lastD_mem r b)
theorem idx_lt {hs : List Int} (h : hs.Pairwise (· < ·)) {a b : Int} (ha : a ∈ hs) (hb : b ∈ hs) (l : a < b) : hs.idxOf a < hs.idxOf b := by
  have la := List.idxOf_lt_length_of_mem ha
  have lb := List.idxOf_lt_length_of_mem hb
  refine Classical.byContradiction fun z => ?_
  have ea : hs[hs.idxOf a] = a := List.getElem_idxOf la
  have eb : hs[hs.idxOf b] = b := List.getElem_idxOf lb
  rcases Nat.lt_or_ge (hs.idxOf b) (hs.idxOf a) with c | c
  · have := List.pairwise_iff_getElem.mp h _ _ lb la c
    omega
  · have e : hs.idxOf a = hs.idxOf b := by omega
    have : a = b := by rw [← ea, ← eb]; simp only [e]
    omega
theorem wayAt_srt (ps : List Int) (x : Int) (w : Int × Int) : (wayAt ps x w).Pairwise (· < ·) := by
  unfold wayAt someOf
  refine List.pairwise_map.mpr (((treeTies_srt ps w).filter _).imp_of_mem fun {a b} ha hb hab => ?_)
  have h1 := of_decide_eq_true (List.mem_filter.mp ha).2
  have h2 := of_decide_eq_true (List.mem_filter.mp hb).2
  have := idx_lt (here_srt ps x) h1 h2 hab
  omega
theorem CrOk.tree {ps : List Int} {x : Int} {ws : List (Int × Int)} (hp : ps.length ≤ 60) (hw : ws.length ≤ 60) : CrOk (hereOf ps x).length (crPairs ps x ws) := by
  have hl : (hereOf ps x).length ≤ ps.length := by
    unfold hereOf
    rw [List.length_map]
    have := List.length_filter_le (hereB ps x) (List.range ps.length)
    rwa [List.length_range] at this
  refine ⟨by omega, by omega, ?_, fun q hq => ?_⟩
  · unfold crPairs
    exact Nat.le_trans (List.length_filterMap_le _ _) hw
  · unfold crPairs at hq
    obtain ⟨w, _, e⟩ := List.mem_filterMap.mp hq
    split at e
    · cases e
    · rename_i ne
      cases e
      have rng : ∀ y ∈ wayAt ps x w, 0 ≤ y ∧ y < (hereOf ps x).length := fun y hy => by
        unfold wayAt someOf at hy
        obtain ⟨t, ht, rfl⟩ := List.mem_map.mp hy
        have := of_decide_eq_true (List.mem_filter.mp ht).2
        have := List.idxOf_lt_length_of_mem this
        omega
      have srt : (wayAt ps x w).Pairwise (· < ·) := wayAt_srt ps x w
      generalize wayAt ps x w = l at ne rng srt
      cases l with
      | nil => exact absurd rfl ne
      | cons a r =>
        have h1 := rng a List.mem_cons_self
        have hlast : (ends (a :: r)).2 ∈ a :: r := by
          show (a :: r).getLastD 0 ∈ a :: r
          rw [List.getLastD_cons]
          exact lastD_mem r a
        have h2 := rng _ hlast
        refine ⟨h1.1, ?_, h2.2⟩
        rcases List.mem_cons.mp hlast with e | e
        · rw [e]; exact Int.le_refl _
        · exact Int.le_of_lt ((List.pairwise_cons.mp srt).1 _ e)


/-- an odd lot of a tree's place that needs h hues -/
def LotSh (N : Net) (ws : List (Int × Int)) (h : Int) (ds : List PyData) : Prop := ∃ ps x t ns, N = .tree ps ∧ ds = [x, t, dInts ns] ∧ wholeD t = true ∧ 0 ≤ intD t ∧ intD t ≤ ps.length ∧ LotOk (hereOf ps (intD t)).length ns ∧ h ≤ bnd (crPairs ps (intD t) ws) ns
def pr_shows_lot (K : PySem.W.Frag) (v0 v1 v2 v3 : V) (H : Hp) (Q : VK) (_ : XK) : Prop := ∃ (N : Net) (ws : List (Int × Int)) (h : Int) (ds : List PyData), Dp K H v0 N.d ∧ N.ok ∧ Dp K H v1 (dPairs ws) ∧ ws.length ≤ 60 ∧ (∀ w ∈ ws, isWay N w.1 w.2) ∧ v2 = .int h ∧ Dp K H v3 (.tuple ds) ∧ (∀ D ∈ ds, ∀ es, D = .list es → es.length ≤ 1000) ∧
  ∀ b H', Same H H' → (b = true ↔ LotSh N ws h ds) → Q (.bl b) H'
def t_shows_lot (K : PySem.W.Frag) : TS :=
  (tSeq (tIfS (tOr (tTest (tOp rNe (tOp (rIxT K) (tVar 0) (tC (.int 0))) (tC (.str (Str.ofString "tree"))))) (tOr (tTest (tOp rNe (tCB (rLenX K) (tCons (tVar 3) tNil)) (tC (.int 3)))) (tOr (tNot (tB (tCall (sp_is_whole K) [] E0 (tCons (tOp (rIxT K) (tVar 3) (tC (.int 1))) tNil)))) (tOr (tTest (tOp xLt (tOp (rIxT K) (tVar 3) (tC (.int 1))) (tC (.int 0)))) (tTest (tOp xGt (tOp (rIxT K) (tVar 3) (tC (.int 1))) (tCB (rLenX K) (tCons (tOp (rIxT K) (tVar 0) (tC (.int 1))) tNil)))))))) (tRet (tC (.bl false))) tNext)
    (tSeq (tAsg (tOp (rIxT K) (tCall (sp_crossing_at K) [] E0 (tCons (tVar 0) (tCons (tVar 1) (tCons (tOp (rIxT K) (tVar 3) (tC (.int 1))) tNil)))) (tC (.int 0))) (gName 4))
    (tRet (tAndV (tCall (sp_is_lot K) [] E0 (tCons (tVar 4) (tCons (tOp (rIxT K) (tVar 3) (tC (.int 2))) tNil))) (tOp xGe (tCall (sp_lot_bound K) [] E0 (tCons (tVar 4) (tCons (tOp (rIxT K) (tVar 3) (tC (.int 2))) tNil))) (tVar 2))))))
theorem pure_shows_lot {v0 v1 v2 v3 : V} {H : Hp} {Q : VK} {E : XK} (hh : pr_shows_lot K v0 v1 v2 v3 H Q E) : t_shows_lot K ⟨fun _ H' => Q .non H', Q, fun _ _ => False, fun _ _ => False⟩ [some v0, some v1, some v2, some v3, none] H := by
  obtain ⟨N, ws, h, ds, d0, ok, d1, hz, hok, rfl, d3, hsm, q⟩ := hh
  have no : ∀ H', Same H H' → ¬ LotSh N ws h ds → Q (.bl false) H' := fun H' s n => q false H' s ⟨(fun z => by cases z), fun z => absurd z n⟩
  obtain ⟨p, xs, rfl, hp, dx⟩ := dp_tup d3
  have lx := dpa_len dx
  obtain ⟨a, y, rfl, hs, hy⟩ := dp_net d0
  unfold t_shows_lot
  wtm_at "s"
  refine k_neS ?_
  cases N with
  | line n =>
    rw [show Net.kind (.line n) = Str.ofString "line" from rfl, s_lt]
    wtm_at "s"
    exact no H (Same.refl _) fun ⟨_, _, _, _, e, _⟩ => by cases e
  | ring n =>
    rw [show Net.kind (.ring n) = Str.ofString "ring" from rfl, s_rt]
    wtm_at "s"
    exact no H (Same.refl _) fun ⟨_, _, _, _, e, _⟩ => by cases e
  | tree ps =>
    obtain ⟨b, rfl, hb⟩ := dp_ints hy
    have lps : ps.length < 60 := ok.2.1
    rw [show Net.kind (.tree ps) = Str.ofString "tree" from rfl, s_same]
    wtm_at "s"
    refine k_lenT hp ?_
    wtm_at "s"
    refine k_itn (fun c1 => ?_) (fun c1 => ?_)
    · wtm_at "s"
      exact no H (Same.refl _) fun ⟨_, _, _, _, _, e, _⟩ => by rw [e] at lx; exact c1 (by rw [lx]; rfl)
    obtain ⟨x, t, z, dx', dt, dz, rfl, rfl, hx, ht, hz'⟩ := dpa3 dx (by omega)
    clear lx c1
    wtm_at "s"
    refine ⟨_, rfl, dt, ht, ?_⟩
    rcases (bcases (wholeD dt)).symm with c2 | c2
    · rw [c2]
      wtm_at "s"
      exact no H (Same.refl _) fun ⟨_, _, _, _, _, e, w, _⟩ => by cases e; rw [w] at c2; cases c2
    obtain rfl := dp_whole ht c2
    rw [c2]
    wtm_at "s"
    refine k_it (fun c3 => ?_) (fun c3 => ?_)
    · wtm_at "s"
      exact no H (Same.refl _) fun ⟨_, _, _, _, _, e, _, w, _⟩ => by cases e; omega
    wtm_at "s"
    refine k_it (fun c4 => ?_) (fun c4 => ?_)
    · wtm_at "s"
      exact no H (Same.refl _) fun ⟨_, _, _, _, en, e, _, _, w, _⟩ => by cases e; cases en; omega
    have c4' : intD dt ≤ ps.length := by omega
    wtm_at "s"
    refine ⟨_, _, _, rfl, ps, ws, intD dt, rfl, d0, ok, d1, by omega, hok, by omega, c4', fun pc H1 cn => ?_⟩
    have s1 : Same H H1 := cn.same
    obtain ⟨ac, vx, vy, e1, hac, hcx, _⟩ := dp_tup2 cn.dp
    cases e1
    obtain ⟨pc2, _, _, rfl, _, _, _⟩ := dp_tup2 hcx
    have cok : CrOk (hereOf ps (intD dt)).length (crPairs ps (intD dt) ws) := CrOk.tree (by omega) hz
    have hp1 := same_seqT s1 hp
    wtm_at "s"
    refine ⟨_, _, rfl, _, _, dz, hcx, dp_same s1 hz', (fun es e => hsm dz (by simp) es e), fun H2 bb s2 hbb => ?_⟩
    have s02 := s1.trans s2
    rcases (bcases bb).symm with c5 | c5
    · subst c5
      refine ⟨false, rfl, ?_⟩
      rw [if_neg (by decide)]
      refine no H2 s02 fun ⟨_, _, _, ns, en, e, _, _, _, lo, _⟩ => ?_
      cases e
      cases en
      have := hbb.mpr ⟨ns, rfl, lo⟩
      cases this
    · subst c5
      obtain ⟨ns, e, lo⟩ := hbb.mp rfl
      subst e
      have hp2 := same_seqT s02 hp
      refine ⟨true, rfl, ?_⟩
      rw [if_pos rfl]
      wtm_at "s"
      refine ⟨_, _, rfl, _, _, ns, dp_same s2 hcx, dp_same s02 hz', cok, lo, (by have := hsm (dInts ns) (by simp) _ rfl; rwa [List.length_map] at this), fun H3 s3 => ?_⟩
      wtm_at "s"
      refine q _ H3 (s02.trans s3) ?_
      rw [decide_eq_true_eq]
      constructor
      · exact fun z => ⟨ps, dx', dt, ns, rfl, rfl, c2, by omega, c4', lo, z⟩
      · rintro ⟨_, _, _, ns', en, e, _, _, _, _, z⟩
        cases en
        have e' : dInts ns = dInts ns' := by injection e with _ e; injection e with _ e; injection e
        injection e with e1 e2
        injection e2 with e2 e3
        subst e2
        rw [dints_eq e']
        exact z
abbrev sp_shows_lot (K : PySem.W.Frag) : Sp := fun vs H Q E => ∃ v0 v1 v2 v3, vs = [v0, v1, v2, v3] ∧ pr_shows_lot K v0 v1 v2 v3 H Q E
theorem ok_shows_lot (T : Txt K mg A) : FnOk P w K mg base CX0 5 A.a_shows_lot A.d_shows_lot ["net", "ways", "h", "paper"] (sp_shows_lot K) := by
  refine T.F_shows_lot.ok sc_shows_lot (fun vs H Q E h => by obtain ⟨v0, v1, v2, v3, rfl, _⟩ := h; rfl) (fun cdv A0 outer s H vs Q E hr h => ?_)
  obtain ⟨v0, v1, v2, v3, rfl, h⟩ := h
  exact ⟨t_shows_lot K, (pss_cons (ps_if (PW.pt (pw_or (pt_cmpR op_ne (pe_ix ix_tup (pv 0) pe_int (fun _ _ => rfl)) pe_str (nomark _)) (pw_or (pt_cmpR op_ne (pe_callB q_len (by rfl) T.z_len (by decide +kernel) (pa_cons (pv 3) pa_nil)) pe_int (nomark _)) (pw_or (pt_not (pt_val (pe_call (ok_is_whole T) (hr.mono (by decide)) (by rfl) T.g_is_whole T.F_is_whole.kp T.b_is_whole .nil pass0 (pa_cons (pe_ix ix_tup (pv 3) pe_int (fun _ _ => rfl)) pa_nil)))) (pw_or (pt_cmpR op_lt (pe_ix ix_tup (pv 3) pe_int (fun _ _ => rfl)) pe_int (nomark _)) (pw_or1 (pt_cmpR op_gt (pe_ix ix_tup (pv 3) pe_int (fun _ _ => rfl)) (pe_callB q_len (by rfl) T.z_len (by decide +kernel) (pa_cons (pe_ix ix_tup (pv 0) pe_int (fun _ _ => rfl)) pa_nil)) (nomark _)))))))) (pss_one (ps_ret pe_bl)) pss_nil)
      (pss_cons (ps_set (i := 4) sc_shows_lot.nd rfl (Or.inl rfl) (pe_ix ix_tup (pe_call (ok_crossing_at T) (hr.mono (by decide)) (by rfl) T.g_crossing_at T.F_crossing_at.kp T.b_crossing_at .nil pass0 (pa_cons (pv 0) (pa_cons (pv 1) (pa_cons (pe_ix ix_tup (pv 3) pe_int (fun _ _ => rfl)) pa_nil)))) pe_int (fun _ _ => rfl)))
      (pss_one (ps_ret (pe_and (pe_call (ok_is_lot T) (hr.mono (by decide)) (by rfl) T.g_is_lot T.F_is_lot.kp T.b_is_lot .nil pass0 (pa_cons (pv 4) (pa_cons (pe_ix ix_tup (pv 3) pe_int (fun _ _ => rfl)) pa_nil))) (pe_one (pe_cmpR op_ge (pe_call (ok_lot_bound T) (hr.mono (by decide)) (by rfl) T.g_lot_bound T.F_lot_bound.kp T.b_lot_bound .nil pass0 (pa_cons (pv 4) (pa_cons (pe_ix ix_tup (pv 3) pe_int (fun _ _ => rfl)) pa_nil))) (pv 2) (nomark _)))))))), pure_shows_lot h⟩


theorem at0 {α : Type} (x : α) (xs : List α) : atI (x :: xs) 0 = some x := atI_nat (j := 0) rfl
theorem eqv_strD (d : PyData) (s : Str) : PyData.eqv d (.str s) = true ↔ d = .str s := by
  cases d <;> simp [PyData.eqv]
theorem eqv_oneS (ds : List PyData) (s : Str) : PyData.eqv (.tuple ds) (.tuple [.str s]) = true ↔ ds = [.str s] := by
  match ds with
  | [] => simp [PyData.eqv, PyData.eqvAll]
  | [d] => simp [PyData.eqv, PyData.eqvAll, eqv_strD]
  | d :: e :: r => simp [PyData.eqv, PyData.eqvAll]
theorem eqv_dPE (ws : List (Int × Int)) : PyData.eqv (dPairs ws) (.list []) = decide (ws = []) := by
  cases ws with
  | nil => rfl
  | cons w r => rfl
theorem sh_pairs {ws : List (Int × Int)} : Sh 2 (dPairs ws) := sh_list fun d hd => by
  obtain ⟨w, _, rfl⟩ := List.mem_map.mp hd
  exact sh_tup fun d hd => by
    rcases List.mem_cons.mp hd with rfl | hd
    · exact sh_int
    · rw [List.mem_singleton.mp hd]; exact sh_int
def sNone : Str := Str.ofString "none"
def sTie : Str := Str.ofString "tie"
def sLot : Str := Str.ofString "lot"
def sCase : Str := Str.ofString "case"
theorem sh_str1 {s : Str} (h : (PyData.str s).canLay0 = true) {n : Nat} : Sh n (.str s) := ⟨h, Nat.zero_le _⟩
theorem sh_none1 {n : Nat} : Sh n (.str sNone) := sh_str1 (by decide +kernel)
theorem sh_tie1 {n : Nat} : Sh n (.str sTie) := sh_str1 (by decide +kernel)
theorem sh_lot1 {n : Nat} : Sh n (.str sLot) := sh_str1 (by decide +kernel)
theorem sh_case1 {n : Nat} : Sh n (.str sCase) := sh_str1 (by decide +kernel)
/-- a paper that shows that h hues are needed -/
def ShowsF (N : Net) (ws : List (Int × Int)) (h : Int) (D : PyData) : Prop := ∃ ds, D = .tuple ds ∧ ((ds = [.str sNone] ∧ ws = []) ∨ (ds.head? = some (.str sTie) ∧ TieSh N ws h ds) ∨ (ds.head? = some (.str sLot) ∧ LotSh N ws h ds) ∨ ∃ c, ds = [.str sCase, c] ∧ 0 < h ∧ caseJ (meetF N ws) (h - 1) 13 [] c = true)
theorem showsF_head {N : Net} {ws : List (Int × Int)} {h : Int} {d : PyData} {dr : List PyData} (z : ShowsF N ws h (.tuple (d :: dr))) : (d = .str sNone ∧ dr = [] ∧ ws = []) ∨ (d = .str sTie ∧ TieSh N ws h (d :: dr)) ∨ (d = .str sLot ∧ LotSh N ws h (d :: dr)) ∨ (d = .str sCase ∧ ∃ c, dr = [c] ∧ 0 < h ∧ caseJ (meetF N ws) (h - 1) 13 [] c = true) := by
  obtain ⟨ds, e, z⟩ := z
  cases e
  rcases z with ⟨e, z⟩ | ⟨e, z⟩ | ⟨e, z⟩ | ⟨c, e, z⟩
  · cases e; exact .inl ⟨rfl, rfl, z⟩
  · exact .inr (.inl ⟨by simpa using e, z⟩)
  · exact .inr (.inr (.inl ⟨by simpa using e, z⟩))
  · cases e; exact .inr (.inr (.inr ⟨rfl, c, rfl, z⟩))
theorem sNT : sNone ≠ sTie := by decide +kernel
theorem sNL : sNone ≠ sLot := by decide +kernel
theorem sNC : sNone ≠ sCase := by decide +kernel
theorem sTL : sTie ≠ sLot := by decide +kernel
theorem sTC : sTie ≠ sCase := by decide +kernel
theorem sLC : sLot ≠ sCase := by decide +kernel
def pr_shows_fewest (K : PySem.W.Frag) (v0 v1 v2 v3 : V) (H : Hp) (Q : VK) (_ : XK) : Prop := ∃ (N : Net) (ws : List (Int × Int)) (h : Int) (D : PyData), Dp K H v0 N.d ∧ N.ok ∧ Dp K H v1 (dPairs ws) ∧ ws.length < 13 ∧ (∀ w ∈ ws, isWay N w.1 w.2) ∧ v2 = .int h ∧ 0 ≤ h ∧ h ≤ 1000 ∧ Dp K H v3 D ∧ Sh 60 D ∧ (∀ ds, D = .tuple ds → ∀ D ∈ ds, ∀ es, D = .list es → es.length ≤ 1000) ∧
  ∀ b H', Same H H' → (b = true ↔ ShowsF N ws h D) → Q (.bl b) H'
def t_shows_fewest (K : PySem.W.Frag) : TS :=
  (tSeq (tIfS (tOr (tNot (tB (tCB (rIsi K) (tCons (tVar 3) (tCons (tC (.ty "tuple")) tNil))))) (tOr (tTest (tOp (rEqD K) (tVar 3) (tTup tNil))) (tNot (tB (tCB (rIsi K) (tCons (tOp (rIxT K) (tVar 3) (tC (.int 0))) (tCons (tC (.ty "str")) tNil))))))) (tRet (tC (.bl false))) tNext)
    (tSeq (tIfS (tTest (tOp (rEqD K) (tVar 3) (tTup (tCons (tC (.str (Str.ofString "none"))) tNil)))) (tRet (tOp (rEqD K) (tVar 1) (tLst tNil))) tNext)
    (tSeq (tIfS (tTest (tOp (rEqD K) (tOp (rIxT K) (tVar 3) (tC (.int 0))) (tC (.str (Str.ofString "tie"))))) (tRet (tCall (sp_shows_tie K) [] E0 (tCons (tVar 0) (tCons (tVar 1) (tCons (tVar 2) (tCons (tVar 3) tNil)))))) tNext)
    (tSeq (tIfS (tTest (tOp (rEqD K) (tOp (rIxT K) (tVar 3) (tC (.int 0))) (tC (.str (Str.ofString "lot"))))) (tRet (tCall (sp_shows_lot K) [] E0 (tCons (tVar 0) (tCons (tVar 1) (tCons (tVar 2) (tCons (tVar 3) tNil)))))) tNext)
    (tSeq (tIfS (tAnd (tTest (tOp (rEqD K) (tOp (rIxT K) (tVar 3) (tC (.int 0))) (tC (.str (Str.ofString "case"))))) (tAnd (tTest (tOp rEq (tCB (rLenX K) (tCons (tVar 3) tNil)) (tC (.int 2)))) (tTest (tOp xGt (tVar 2) (tC (.int 0)))))) (tRet (tCall (sp_is_right K) [] E0 (tCons (tCall (sp_meetings K) [] E0 (tCons (tVar 0) (tCons (tVar 1) tNil))) (tCons (tOp xSub (tVar 2) (tC (.int 1))) (tCons tDNewK (tCons (tOp (rIxT K) (tVar 3) (tC (.int 1))) tNil)))))) tNext)
    (tRet (tC (.bl false))))))))
theorem pure_shows_fewest {v0 v1 v2 v3 : V} {H : Hp} {Q : VK} {E : XK} (hh : pr_shows_fewest K v0 v1 v2 v3 H Q E) : t_shows_fewest K ⟨fun _ H' => Q .non H', Q, fun _ _ => False, fun _ _ => False⟩ [some v0, some v1, some v2, some v3] H := by
  obtain ⟨N, ws, h, D, d0, ok, d1, hz, hok, rfl, h0, h1, dD, shD, hsm, q⟩ := hh
  have no : ∀ H', Same H H' → ¬ ShowsF N ws h D → Q (.bl false) H' := fun H' s n => q false H' s ⟨(fun z => by cases z), fun z => absurd z n⟩
  unfold t_shows_fewest
  wtm_at "s"
  refine k_isiTupD dD ?_
  rcases (bcases (isD "tuple" D)).symm with c1 | c1
  · rw [c1]
    wtm_at "s"
    exact no H (Same.refl _) fun ⟨_, e, _⟩ => by rw [e] at c1; cases c1
  obtain ⟨ds, rfl⟩ := isD_tup c1
  rw [c1]
  obtain ⟨p, xs, rfl, hp, dx⟩ := dp_tup dD
  wtm_at "s"
  refine kT (by simp) (fun t1 H1 nt1 s1 e1 => ?_)
  refine k_eqD (n := 60) (dp_same s1 dD) (.tup (stp e1) .nil) shD ((sh_tup (n := 0) fun d hd => by cases hd).mono (by decide)) (by decide) ?_
  rw [eqv_emp]
  cases ds with
  | nil =>
    wtm_at "s"
    refine no H1 s1 fun ⟨ds, e, z⟩ => ?_
    cases e
    rcases z with ⟨e, _⟩ | ⟨e, _⟩ | ⟨e, _⟩ | ⟨c, e, _⟩ <;> cases e
  | cons d dr =>
    cases dx with | @cons x _ xr _ hx dr' =>
    have lxr := dpa_len dr'
    have shd : Sh 60 d := sh_tup_mem shD d List.mem_cons_self
    rw [show isEmp (.tuple (d :: dr)) = false from rfl]
    have hp1 := same_seqT s1 hp
    wtm_at "s"
    refine k_ixT hp1 (at0 _ _) ?_
    wtm_at "s"
    refine k_isiStrD (dp_same s1 hx) ?_
    rcases (bcases (isD "str" d)).symm with c2 | c2
    · rw [c2]
      wtm_at "s"
      refine no H1 s1 fun z => ?_
      rcases showsF_head z with ⟨e, _⟩ | ⟨e, _⟩ | ⟨e, _⟩ | ⟨e, _⟩ <;> (rw [e] at c2; cases c2)
    obtain ⟨k, rfl⟩ := isD_str c2
    rw [c2]
    clear c1 c2
    wtm_at "s"
    refine kT (by simp) (fun t2 H2 nt2 s2 e2 => ?_)
    have s02 := s1.trans s2
    refine k_eqD (n := 60) (dp_same s02 dD) (.tup (stp e2) (.cons (.str _) .nil)) shD ((sh_tup (n := 0) (ds := [.str sNone]) fun d hd => by rw [List.mem_singleton.mp hd]; exact sh_none1).mono (by decide)) (by decide) ?_
    have hp2 := same_seqT s02 hp
    rcases (bcases (PyData.eqv (.tuple (.str k :: dr)) (.tuple [.str sNone]))) with c3 | c3
    · rw [show (Str.ofString "none") = sNone from rfl, c3]
      have e3 := (eqv_oneS _ _).mp c3
      wtm_at "s"
      refine kL (by simp) (fun l3 H3 nl3 s3 e3' => ?_)
      have s03 := s02.trans s3
      refine k_eqD (n := 2) (dp_same s03 d1) (.lst (sl e3') .nil) sh_pairs ((sh_list (n := 0) fun d hd => by cases hd).mono (by decide)) (by decide) ?_
      rw [eqv_dPE]
      refine q _ H3 s03 ?_
      rw [decide_eq_true_eq, e3]
      constructor
      · exact fun z => ⟨_, rfl, .inl ⟨rfl, z⟩⟩
      · intro z
        rcases showsF_head z with ⟨_, _, z⟩ | ⟨e, _⟩ | ⟨e, _⟩ | ⟨e, _⟩
        · exact z
        · cases e
        · cases e
        · cases e
    have n3 : ¬ (PyData.str k = .str sNone ∧ dr = []) := fun ⟨a, b⟩ => by
      rw [a, b, (eqv_oneS _ _).mpr rfl] at c3
      cases c3
    rw [show (Str.ofString "none") = sNone from rfl, c3]
    have hxs : x = .str k := by cases hx; rfl
    subst hxs
    wtm_at "s"
    refine k_ixT hp2 (at0 _ _) ?_
    wtm_at "s"
    refine k_eqD (n := 60) (.str k) (.str sTie) shd sh_tie1 (by decide) ?_
    rcases (bcases (PyData.eqv (.str k) (.str sTie))) with c4 | c4
    · have e4 := (eqv_strD _ _).mp c4
      rw [c4]
      wtm_at "s"
      refine ⟨_, _, _, _, rfl, N, ws, h, _, dp_same s02 d0, ok, dp_same s02 d1, by omega, hok, rfl, dp_same s02 dD, fun b H3 s3 hb => ?_⟩
      refine q b H3 (s02.trans s3) (hb.trans ?_)
      constructor
      · exact fun z => ⟨_, rfl, .inr (.inl ⟨by rw [e4]; rfl, z⟩)⟩
      · intro z
        rcases showsF_head z with ⟨e, _⟩ | ⟨_, z⟩ | ⟨e, _⟩ | ⟨e, _⟩
        · rw [e4] at e; cases e
        · exact z
        · rw [e4] at e; cases e
        · rw [e4] at e; cases e
    have n4 : PyData.str k ≠ .str sTie := fun a => by rw [(eqv_strD _ _).mpr a] at c4; cases c4
    rw [c4]
    wtm_at "s"
    refine k_ixT hp2 (at0 _ _) ?_
    wtm_at "s"
    refine k_eqD (n := 60) (.str k) (.str sLot) shd sh_lot1 (by decide) ?_
    rcases (bcases (PyData.eqv (.str k) (.str sLot))) with c5 | c5
    · have e5 := (eqv_strD _ _).mp c5
      rw [c5]
      wtm_at "s"
      refine ⟨_, _, _, _, rfl, N, ws, h, _, dp_same s02 d0, ok, dp_same s02 d1, by omega, hok, rfl, dp_same s02 dD, hsm _ rfl, fun b H3 s3 hb => ?_⟩
      refine q b H3 (s02.trans s3) (hb.trans ?_)
      constructor
      · exact fun z => ⟨_, rfl, .inr (.inr (.inl ⟨by rw [e5]; rfl, z⟩))⟩
      · intro z
        rcases showsF_head z with ⟨e, _⟩ | ⟨e, _⟩ | ⟨_, z⟩ | ⟨e, _⟩
        · rw [e5] at e; cases e
        · rw [e5] at e; cases e
        · exact z
        · rw [e5] at e; cases e
    have n5 : PyData.str k ≠ .str sLot := fun a => by rw [(eqv_strD _ _).mpr a] at c5; cases c5
    rw [c5]
    have last : ∀ H', Same H H' → ¬ (PyData.str k = .str sCase ∧ ∃ c, dr = [c] ∧ 0 < h ∧ caseJ (meetF N ws) (h - 1) 13 [] c = true) → Q (.bl false) H' := fun H' s n => no H' s fun z => by
      rcases showsF_head z with ⟨e, e', _⟩ | ⟨e, _⟩ | ⟨e, _⟩ | z
      · exact n3 ⟨e, e'⟩
      · exact n4 e
      · exact n5 e
      · exact n z
    wtm_at "s"
    refine k_ixT hp2 (at0 _ _) ?_
    wtm_at "s"
    refine k_eqD (n := 60) (.str k) (.str sCase) shd sh_case1 (by decide) ?_
    rcases (bcases (PyData.eqv (.str k) (.str sCase))).symm with c6 | c6
    · rw [c6]
      wtm_at "s"
      exact last H2 s02 fun ⟨a, _⟩ => by rw [(eqv_strD _ _).mpr a] at c6; cases c6
    have e6 := (eqv_strD _ _).mp c6
    rw [c6]
    wtm_at "s"
    refine k_lenT hp2 ?_
    wtm_at "s"
    refine k_it (fun c7 => ?_) (fun c7 => ?_)
    · match dr, hsm, shD, hp2, dr', lxr, dD, no, last, q with
      | [c], hsm, shD, hp2, dr', lxr, dD, no, last, q =>
        cases dr' with | @cons y _ yr _ hy dn =>
        cases dn
        have shc : Sh 60 c := sh_tup_mem shD c (by simp)
        wtm_at "s"
        refine k_it (fun c8 => ?_) (fun c8 => ?_)
        · wtm_at "s"
          refine ⟨_, _, rfl, N, ws, [], dp_same s02 d0, ok, dp_same s02 d1, by omega, hok, (fun x hx => by cases hx), fun p3 H3 np3 s3 dM => ?_⟩
          replace dM := dp_same (hid_same _ _) dM
          wtm_at "s"
          refine kD (fun a H4 na s4 e4 => ?_)
          have s24 := s3.trans s4
          have s04 := s02.trans s24
          have ml := meetF_len N ws
          have hp4 := same_seqT s04 hp
          wtm_at "s"
          refine ⟨_, _, _, _, rfl, 13, by decide, meetF N ws, h - 1, a, [], c, dp_same s4 dM, by omega, (fun r hr => by have := (meetF_adj N ws).len r hr; omega), rfl, by omega, by omega, rfl, e4, Uni.nil, by decide, by rw [frN_nil]; omega, dp_same s04 hy, shc, fun H5 s5 => ?_⟩
          refine q _ H5 (s04.trans s5) ?_
          constructor
          · exact fun z => ⟨_, rfl, .inr (.inr (.inr ⟨c, by rw [e6], c8, z⟩))⟩
          · intro z
            rcases showsF_head z with ⟨e, _⟩ | ⟨e, _⟩ | ⟨e, _⟩ | ⟨_, c', e, _, z⟩
            · rw [e6] at e; cases e
            · rw [e6] at e; cases e
            · rw [e6] at e; cases e
            · cases e; exact z
        · wtm_at "s"
          exact last H2 s02 fun ⟨_, c', _, z, _⟩ => by omega
      | [], _, _, _, _, lxr, _, _, _, _ => exact absurd c7 (by rw [List.length_cons, lxr]; decide)
      | _ :: _ :: _, _, _, _, _, lxr, _, _, _, _ => exact absurd c7 (by rw [List.length_cons, lxr]; simp only [List.length_cons]; omega)
    · wtm_at "s"
      refine last H2 s02 fun ⟨_, c', e, _⟩ => c7 ?_
      rw [e] at lxr
      rw [List.length_cons, lxr]; rfl
abbrev sp_shows_fewest (K : PySem.W.Frag) : Sp := fun vs H Q E => ∃ v0 v1 v2 v3, vs = [v0, v1, v2, v3] ∧ pr_shows_fewest K v0 v1 v2 v3 H Q E
theorem ok_shows_fewest (T : Txt K mg A) : FnOk P w K mg base CX0 17 A.a_shows_fewest A.d_shows_fewest ["net", "ways", "h", "paper"] (sp_shows_fewest K) := by
  refine T.F_shows_fewest.ok sc_shows_fewest (fun vs H Q E h => by obtain ⟨v0, v1, v2, v3, rfl, _⟩ := h; rfl) (fun cdv A0 outer s H vs Q E hr h => ?_)
  obtain ⟨v0, v1, v2, v3, rfl, h⟩ := h
  exact ⟨t_shows_fewest K, (pss_cons (ps_if (PW.pt (pw_or (pt_not (pt_val (pe_callB q_isi (by rfl) T.z_isinstance (by decide +kernel) (pa_cons (pv 3) (pa_cons (pe_bltn (v := .ty "tuple") (by rfl) T.z_tuple (by decide +kernel) rfl) pa_nil))))) (pw_or (pt_cmpR (op_eqD hr.units) (pv 3) (pe_tup pa_nil) (nomark _)) (pw_or1 (pt_not (pt_val (pe_callB q_isi (by rfl) T.z_isinstance (by decide +kernel) (pa_cons (pe_ix ix_tup (pv 3) pe_int (fun _ _ => rfl)) (pa_cons (pe_bltn (v := .ty "str") (by rfl) T.z_str (by decide +kernel) rfl) pa_nil))))))))) (pss_one (ps_ret pe_bl)) pss_nil)
      (pss_cons (ps_if (pt_cmpR (op_eqD hr.units) (pv 3) (pe_tup (pa_cons pe_str pa_nil)) (nomark _)) (pss_one (ps_ret (pe_cmpR (op_eqD hr.units) (pv 1) (pe_lst pa_nil) (nomark _)))) pss_nil)
      (pss_cons (ps_if (pt_cmpR (op_eqD hr.units) (pe_ix ix_tup (pv 3) pe_int (fun _ _ => rfl)) pe_str (nomark _)) (pss_one (ps_ret (pe_call (ok_shows_tie T) (hr.mono (by decide)) (by rfl) T.g_shows_tie T.F_shows_tie.kp T.b_shows_tie .nil pass0 (pa_cons (pv 0) (pa_cons (pv 1) (pa_cons (pv 2) (pa_cons (pv 3) pa_nil))))))) pss_nil)
      (pss_cons (ps_if (pt_cmpR (op_eqD hr.units) (pe_ix ix_tup (pv 3) pe_int (fun _ _ => rfl)) pe_str (nomark _)) (pss_one (ps_ret (pe_call (ok_shows_lot T) (hr.mono (by decide)) (by rfl) T.g_shows_lot T.F_shows_lot.kp T.b_shows_lot .nil pass0 (pa_cons (pv 0) (pa_cons (pv 1) (pa_cons (pv 2) (pa_cons (pv 3) pa_nil))))))) pss_nil)
      (pss_cons (ps_if (PW.pt (pw_and (pt_cmpR (op_eqD hr.units) (pe_ix ix_tup (pv 3) pe_int (fun _ _ => rfl)) pe_str (nomark _)) (pw_and (pt_cmpR op_eq (pe_callB q_len (by rfl) T.z_len (by decide +kernel) (pa_cons (pv 3) pa_nil)) pe_int (nomark _)) (pw_and1 (pt_cmpR op_gt (pv 2) pe_int (nomark _)))))) (pss_one (ps_ret (pe_call (ok_is_right T) (hr.mono (by decide)) (by rfl) T.g_is_right T.F_is_right.kp T.b_is_right .nil pass0 (pa_cons (pe_call (ok_meetings T) (hr.mono (by decide)) (by rfl) T.g_meetings T.F_meetings.kp T.b_meetings .nil pass0 (pa_cons (pv 0) (pa_cons (pv 1) pa_nil))) (pa_cons (pe_op op_sub (pv 2) pe_int) (pa_cons pe_dnewK (pa_cons (pe_ix ix_tup (pv 3) pe_int (fun _ _ => rfl)) pa_nil))))))) pss_nil)
      (pss_one (ps_ret pe_bl))))))), pure_shows_fewest h⟩


/-- what is told of a told thing -/
def badHues (N : Net) (ws : List (Int × Int)) (T : PyData) : Prop := ¬ ∃ a b c, T = .tuple [a, b, c] ∧ AreH N ws a b
def badPap (N : Net) (ws : List (Int × Int)) (T : PyData) : Prop := ∃ a b c, T = .tuple [a, b, c] ∧ AreH N ws a b ∧ ¬ ShowsF N ws (intD a) c
def goodTold (N : Net) (ws : List (Int × Int)) (T : PyData) : Prop := ∃ a b c, T = .tuple [a, b, c] ∧ AreH N ws a b ∧ ShowsF N ws (intD a) c
def pr_fewest_judged (K : PySem.W.Frag) (v0 v1 v2 : V) (H : Hp) (Q : VK) (_ : XK) : Prop := ∃ (N : Net) (ws : List (Int × Int)) (T : PyData), Dp K H v0 N.d ∧ N.ok ∧ Dp K H v1 (dPairs ws) ∧ ws.length < 13 ∧ (∀ w ∈ ws, isWay N w.1 w.2) ∧ Dp K H v2 T ∧ Sh 60 T ∧ (∀ ds es, T = .tuple ds → PyData.tuple es ∈ ds → ∀ D ∈ es, ∀ fs, D = .list fs → fs.length ≤ 1000) ∧
  (∀ p H', Same H H' → H' p = some (.tup [.str (Str.ofString "hues")]) → badHues N ws T → Q (.ref p) H') ∧ (∀ p H', Same H H' → H' p = some (.tup [.str (Str.ofString "paper")]) → badPap N ws T → Q (.ref p) H') ∧ (∀ H', Same H H' → goodTold N ws T → Q .non H')
def t_fewest_judged (K : PySem.W.Frag) : TS :=
  (tSeq (tDrop (tCall (sp_look_few K) [] E0 (tCons (tVar 0) (tCons (tVar 1) (tCons (tC (.int 12)) tNil)))))
    (tSeq (tIfS (tOr (tNot (tB (tCB (rIsi K) (tCons (tVar 2) (tCons (tC (.ty "tuple")) tNil))))) (tOr (tTest (tOp rNe (tCB (rLenX K) (tCons (tVar 2) tNil)) (tC (.int 3)))) (tNot (tB (tCall (sp_are_hues K) [] E0 (tCons (tVar 0) (tCons (tVar 1) (tCons (tOp (rIxT K) (tVar 2) (tC (.int 0))) (tCons (tOp (rIxT K) (tVar 2) (tC (.int 1))) tNil))))))))) (tRet (tTup (tCons (tC (.str (Str.ofString "hues"))) tNil))) tNext)
    (tSeq (tIfS (tNot (tB (tCall (sp_shows_fewest K) [] E0 (tCons (tVar 0) (tCons (tVar 1) (tCons (tOp (rIxT K) (tVar 2) (tC (.int 0))) (tCons (tOp (rIxT K) (tVar 2) (tC (.int 2))) tNil))))))) (tRet (tTup (tCons (tC (.str (Str.ofString "paper"))) tNil))) tNext)
    (tRet (tC .non)))))
theorem pure_fewest_judged {v0 v1 v2 : V} {H : Hp} {Q : VK} {E : XK} (hh : pr_fewest_judged K v0 v1 v2 H Q E) : t_fewest_judged K ⟨fun _ H' => Q .non H', Q, fun _ _ => False, fun _ _ => False⟩ [some v0, some v1, some v2] H := by
  obtain ⟨N, ws, T, d0, ok, d1, hz, hok, dT, shT, hsm, qh, qp, qn⟩ := hh
  have noH : ∀ H', Same H H' → badHues N ws T → newT [.str (Str.ofString "hues")] H' Q := fun H' s n => kT (by simp) (fun p H2 np s2 e2 => qh p H2 (s.trans s2) e2 n)
  unfold t_fewest_judged
  wtm_at "s"
  refine ⟨_, _, _, rfl, N, ws, 12, d0, ok, d1, by omega, hok, rfl, by omega, ?_⟩
  wtm_at "s"
  refine k_isiTupD dT ?_
  rcases (bcases (isD "tuple" T)).symm with c1 | c1
  · rw [c1]
    wtm_at "s"
    refine noH H (Same.refl _) fun ⟨_, _, _, e, _⟩ => by rw [e] at c1; cases c1
  obtain ⟨ds, rfl⟩ := isD_tup c1
  rw [c1]
  obtain ⟨p, xs, rfl, hp, dx⟩ := dp_tup dT
  have lx := dpa_len dx
  wtm_at "s"
  refine k_lenT hp ?_
  wtm_at "s"
  refine k_itn (fun c2 => ?_) (fun c2 => ?_)
  · wtm_at "s"
    refine noH H (Same.refl _) fun ⟨_, _, _, e, _⟩ => c2 ?_
    cases e
    rw [lx]; rfl
  obtain ⟨x, y, z, a, b, c, rfl, rfl, hx, hy, hz'⟩ := dpa3 dx (by omega)
  clear lx dx c2 c1
  wtm_at "s"
  refine ⟨_, _, _, _, rfl, N, ws, a, b, d0, ok, d1, by omega, hok, hx, hy, fun r H1 s1 hr => ?_⟩
  rcases (bcases r).symm with c3 | c3
  · subst c3
    wtm_at "s"
    refine noH H1 s1 fun ⟨_, _, _, e, z⟩ => ?_
    cases e
    cases hr.mpr z
  subst c3
  have A := hr.mp rfl
  obtain rfl := dp_whole hx A.1
  have hp1 := same_seqT s1 hp
  have hb := A.2
  obtain ⟨hs, _, lhs, _, eh⟩ := hb
  have hul := unl_le hs
  wtm_at "s"
  refine ⟨_, _, _, _, rfl, N, ws, intD a, c, dp_same s1 d0, ok, dp_same s1 d1, hz, hok, rfl, by omega, by omega, dp_same s1 hz', sh_tup_mem shT c (by simp), (fun es e => hsm _ es rfl (by rw [← e]; simp)), fun r H2 s2 hr2 => ?_⟩
  have s02 := s1.trans s2
  rcases (bcases r).symm with c4 | c4
  · subst c4
    wtm_at "s"
    refine kT (by simp) (fun p2 H3 np s3 e3 => qp p2 H3 (s02.trans s3) e3 ⟨a, b, c, rfl, A, fun z => ?_⟩)
    cases hr2.mpr z
  subst c4
  wtm_at "s"
  exact qn H2 s02 ⟨a, b, c, rfl, A, hr2.mp rfl⟩
abbrev sp_fewest_judged (K : PySem.W.Frag) : Sp := fun vs H Q E => ∃ v0 v1 v2, vs = [v0, v1, v2] ∧ pr_fewest_judged K v0 v1 v2 H Q E
theorem ok_fewest_judged (T : Txt K mg A) : FnOk P w K mg base CX0 18 A.a_fewest_judged A.d_fewest_judged ["net", "ways", "told"] (sp_fewest_judged K) := by
  refine T.F_fewest_judged.ok sc_fewest_judged (fun vs H Q E h => by obtain ⟨v0, v1, v2, rfl, _⟩ := h; rfl) (fun cdv A0 outer s H vs Q E hr h => ?_)
  obtain ⟨v0, v1, v2, rfl, h⟩ := h
  exact ⟨t_fewest_judged K, (pss_cons (ps_expr (pe_call (ok_look_few T) (hr.mono (by decide)) (by rfl) T.g_look_few T.F_look_few.kp T.b_look_few .nil pass0 (pa_cons (pv 0) (pa_cons (pv 1) (pa_cons (pe_glob (v := .int 12) (by rfl) T.c_MOST_fewest ⟨_, rfl⟩) pa_nil)))))
      (pss_cons (ps_if (PW.pt (pw_or (pt_not (pt_val (pe_callB q_isi (by rfl) T.z_isinstance (by decide +kernel) (pa_cons (pv 2) (pa_cons (pe_bltn (v := .ty "tuple") (by rfl) T.z_tuple (by decide +kernel) rfl) pa_nil))))) (pw_or (pt_cmpR op_ne (pe_callB q_len (by rfl) T.z_len (by decide +kernel) (pa_cons (pv 2) pa_nil)) pe_int (nomark _)) (pw_or1 (pt_not (pt_val (pe_call (ok_are_hues T) (hr.mono (by decide)) (by rfl) T.g_are_hues T.F_are_hues.kp T.b_are_hues .nil pass0 (pa_cons (pv 0) (pa_cons (pv 1) (pa_cons (pe_ix ix_tup (pv 2) pe_int (fun _ _ => rfl)) (pa_cons (pe_ix ix_tup (pv 2) pe_int (fun _ _ => rfl)) pa_nil))))))))))) (pss_one (ps_ret (pe_tup (pa_cons pe_str pa_nil)))) pss_nil)
      (pss_cons (ps_if (pt_not (pt_val (pe_call (ok_shows_fewest T) (hr.mono (by decide)) (by rfl) T.g_shows_fewest T.F_shows_fewest.kp T.b_shows_fewest .nil pass0 (pa_cons (pv 0) (pa_cons (pv 1) (pa_cons (pe_ix ix_tup (pv 2) pe_int (fun _ _ => rfl)) (pa_cons (pe_ix ix_tup (pv 2) pe_int (fun _ _ => rfl)) pa_nil))))))) (pss_one (ps_ret (pe_tup (pa_cons pe_str pa_nil)))) pss_nil)
      (pss_one (ps_ret pe_non))))), pure_fewest_judged h⟩


abbrev bothD (ls : List (List Int × List Int)) : PyData := .list (ls.map fun l => .tuple [dInts l.1, dInts l.2])
/-- what lying tells -/
structure Both (n : Int) (ws : List (Int × Int)) (ls : List (List Int × List Int)) : Prop where
  len : ls.length = ws.length
  mem : ∀ (i : Nat) l, ls[i]? = some l → ∀ t, (t ∈ l.1 ↔ onB n (ws.getD i (0, 0)) 0 t = true) ∧ (t ∈ l.2 ↔ onB n (ws.getD i (0, 0)) 1 t = true)
  sml : ∀ l ∈ ls, l.1.length ≤ 1000 ∧ l.2.length ≤ 1000
def pr_lying (K : PySem.W.Frag) (v0 v1 : V) (H : Hp) (Q : VK) (_ : XK) : Prop := ∃ (n : Int) (ws : List (Int × Int)) (S : List Addr), Dp K H v0 (Net.ring n).d ∧ (Net.ring n).ok ∧ Dp K H v1 (dPairs ws) ∧ ws.length ≤ 1000 ∧ (∀ w ∈ ws, isWay (.ring n) w.1 w.2) ∧ (∀ x ∈ S, H x ≠ none) ∧
  ∀ p ls H', H p = none → Same H H' → Dp K (hid S H') (.ref p) (bothD ls) → Both n ws ls → Q (.ref p) H'
def t_lying (K : PySem.W.Frag) : TS :=
  (tRet (tLc (iList K (tVar 1)) (gName 2) tYes (tTup (tCons (tCall (sp_ties_on K) [] E0 (tCons (tVar 0) (tCons (tVar 2) tNil))) (tCons (tCall (sp_ties_on K) [] E0 (tCons (tVar 0) (tCons (tTup (tCons (tOp (rIxT K) (tVar 2) (tC (.int 1))) (tCons (tOp (rIxT K) (tVar 2) (tC (.int 0))) tNil))) tNil))) tNil))) [2]))
theorem pure_lying {v0 v1 : V} {H : Hp} {Q : VK} {E : XK} (hh : pr_lying K v0 v1 H Q E) : t_lying K ⟨fun _ H' => Q .non H', Q, fun _ _ => False, fun _ _ => False⟩ [some v0, some v1, none] H := by
  obtain ⟨n, ws, S, d0, ok, d1, hz, hw, hS, q⟩ := hh
  obtain ⟨b, ys, rfl, hb, dys⟩ := dp_list d1
  have ly : ys.length = ws.length := by rw [dpa_len dys, List.length_map]
  have fS : ∀ {H1 : Hp} {p : Addr}, Same H H1 → H1 p = none → p ∉ S := fun s np z => hS _ z (s.free np)
  unfold t_lying
  wtm_at "s"
  refine ⟨b, rfl, ⟨ys, hb⟩, fun D nD => lc_list (xs := ys) (fun i H1 => Same H H1 ∧ ∃ zs ls, H1 D = some (.lst zs) ∧ zs.length = i ∧ DpAll K (hid (D :: S) H1) zs (List.map (fun l : List Int × List Int => PyData.tuple [dInts l.1, dInts l.2]) ls) ∧ ls.length = i ∧ ∀ (j : Nat) l, ls[j]? = some l → TiesOf (.ring n) (ws.getD j (0, 0)).1 (ws.getD j (0, 0)).2 l.1 ∧ TiesOf (.ring n) (ws.getD j (0, 0)).2 (ws.getD j (0, 0)).1 l.2) ⟨same_new nD, [], [], upd_same, rfl, .nil, rfl, fun j l z => by simp at z⟩ (fun i H1 _ e => e.1.seq hb) ?_ ?_⟩
  · rintro i x H1 hx ⟨s1, zs, ls, eD, lz, dz, ll, tl⟩
    have hi : i < ys.length := (List.getElem?_eq_some_iff.mp hx).1
    obtain ⟨w, c, hw1, rfl, hc⟩ := dpairs_get dys hx
    have hwi := hw w (List.mem_of_getElem? hw1)
    have gw : ws.getD i (0, 0) = w := by rw [List.getD_eq_getElem?_getD, hw1]; rfl
    have hwb : isWay (.ring n) w.2 w.1 := ⟨fun z => hwi.1 z.symm, hwi.2.2.1, hwi.2.1, hwi.2.2.2.2, hwi.2.2.2.1⟩
    have hc1 := same_seqT s1 hc
    wtm_at "s"
    refine ⟨_, _, rfl, .ring n, w.1, w.2, dp_same s1 d0, dp_of_pair hc1, ok, hwi, fun p1 ns1 H2 np1 s2 e2 t2 => ?_⟩
    have hc2 := same_seqT s2 hc1
    wtm_at "s"
    refine kT (by simp) (fun p2 H3 np2 s3 e3 => ?_)
    wtm_at "s"
    refine ⟨_, _, rfl, .ring n, w.2, w.1, dp_same (s1.trans (s2.trans s3)) d0, dp_of_pair (stp e3), ok, hwb, fun p3 ns3 H4 np3 s4 e4 t4 => ?_⟩
    wtm_at "s"
    refine kT (by simp) (fun p4 H5 np4 s5 e5 => ?_)
    have s15 := s2.trans (s3.trans (s4.trans s5))
    have nS : ∀ {H6 : Hp} {p : Addr}, Same H1 H6 → H6 p = none → p ∉ D :: S := fun s np z => by
      rcases List.mem_cons.mp z with z | z
      · have := s _ _ eD
        rw [← z, np] at this; cases this
      · exact fS (s1.trans s) np z
    refine ⟨zs, s15 _ _ eD, szl (by omega), same_mut (s1.trans s15) nD, zs ++ [.ref p4], ls ++ [(ns1, ns3)], upd_same, by simp [lz], ?_, by simp [ll], fun j l hl => ?_⟩
    · rw [hid_upd (by simp), List.map_append]
      have g4 : hid (D :: S) H5 p4 = some (.tup [.ref p1, .ref p3]) := by rw [hid_ne (nS (s2.trans (s3.trans s4)) np4)]; exact e5
      have g1 : hid (D :: S) H5 p1 = some (.lst (ns1.map V.int)) := by rw [hid_ne (nS (Same.refl _) np1)]; exact (s3.trans (s4.trans s5)) _ _ e2
      have g3 : hid (D :: S) H5 p3 = some (.lst (ns3.map V.int)) := by rw [hid_ne (nS (s2.trans s3) np3)]; exact s5 _ _ e4
      exact dpa_app (dpa_same (hid_mono s15) dz) (.cons (.tup (stp g4) (.cons (dp_of_ints (sl g1)) (.cons (dp_of_ints (sl g3)) .nil))) .nil)
    · by_cases cj : j < ls.length
      · rw [List.getElem?_append_left cj] at hl
        exact tl j l hl
      · rw [List.getElem?_append_right (by omega)] at hl
        have : j = i := by
          have := (List.getElem?_eq_some_iff.mp hl).1
          simp at this; omega
        subst this
        rw [ll, Nat.sub_self] at hl
        cases hl
        rw [gw]
        exact ⟨t2, t4⟩
  · rintro H1 ⟨s1, zs, ls, eD, lz, dz, ll, tl⟩
    refine q D ls H1 nD s1 (.lst (sl ?_) (dpa_same (hid_sub fun x hx => List.mem_cons_of_mem _ hx) dz)) ⟨by omega, fun j l hl t => ?_, fun l hl => ?_⟩
    · rw [hid_ne (fS (Same.refl _) nD)]; exact eD
    · obtain ⟨t1, t2⟩ := tl j l hl
      refine ⟨?_, ?_⟩
      · rw [t1.mem]; unfold onB turnW; rw [if_neg (by decide)]; simp
      · rw [t2.mem]; unfold onB turnW; rw [if_pos rfl]; simp
    · obtain ⟨j, hj⟩ := List.mem_iff_getElem?.mp hl
      obtain ⟨t1, t2⟩ := tl j l hj
      have f1 : (l.1.length : Int) = up n _ _ := t1.far
      have f2 : (l.2.length : Int) = up n _ _ := t2.far
      have n60 : n ≤ 60 := ok.2
      have hjw : j < ws.length := by have := (List.getElem?_eq_some_iff.mp hj).1; omega
      have hm : ws.getD j (0, 0) ∈ ws := by
        rw [List.getD_eq_getElem?_getD, List.getElem?_eq_getElem hjw]
        exact List.getElem_mem _
      obtain ⟨w1, w2, w3, w4, w5⟩ := hw _ hm
      have w4' : (ws.getD j (0, 0)).1 < n := w4
      have w5' : (ws.getD j (0, 0)).2 < n := w5
      unfold up at f1 f2
      constructor
      · split at f1 <;> omega
      · split at f2 <;> omega
abbrev sp_lying (K : PySem.W.Frag) : Sp := fun vs H Q E => ∃ v0 v1, vs = [v0, v1] ∧ pr_lying K v0 v1 H Q E
theorem ok_lying (T : Txt K mg A) : FnOk P w K mg base CX0 2 A.a_lying A.d_lying ["net", "ways"] (sp_lying K) := by
  refine T.F_lying.ok sc_lying (fun vs H Q E h => by obtain ⟨v0, v1, rfl, _⟩ := h; rfl) (fun cdv A0 outer s H vs Q E hr h => ?_)
  obtain ⟨v0, v1, rfl, h⟩ := h
  exact ⟨t_lying K, (pss_one (ps_ret (pe_lc (own := [("way", 2)]) (by rfl) sc_lying.nd (pi_list (pv 1)) (blkOk_by (own := [("way", 2)]) (N := ["net", "ways", "way"]) (sc := defScope s_lying) (by decide +kernel)) (fun _ _ _ _ _ => (pg_name (i := 2) sc_lying.nd rfl (Or.inl rfl))) (fun _ _ _ _ _ => pts_nil) (fun _ _ _ _ _ => (pe_tup (pa_cons (pe_call (ok_ties_on T) (hr.mono (by decide)) (by rfl) T.g_ties_on T.F_ties_on.kp T.b_ties_on .nil pass0 (pa_cons (pv 0) (pa_cons (pv 2) pa_nil))) (pa_cons (pe_call (ok_ties_on T) (hr.mono (by decide)) (by rfl) T.g_ties_on T.F_ties_on.kp T.b_ties_on .nil pass0 (pa_cons (pv 0) (pa_cons (pe_tup (pa_cons (pe_ix ix_tup (pv 2) pe_int (fun _ _ => rfl)) (pa_cons (pe_ix ix_tup (pv 2) pe_int (fun _ _ => rfl)) pa_nil))) pa_nil))) pa_nil))))))), pure_lying h⟩
def pr_settle (K : PySem.W.Frag) (v0 v1 v2 : V) (H : Hp) (Q : VK) (_ : XK) : Prop := ∃ (a : Addr) (ss : List (Int × Int)) (k u : Int), v0 = .ref a ∧ v1 = .int k ∧ v2 = .int u ∧ H a = some (.dK (dS ss)) ∧ lookS ss k = none ∧ ss.length ≤ 1000 ∧
  ∀ p H', H p = none → Same H H' → H' p = some (.dK (dS (ss ++ [(k, u)]))) → Q (.ref p) H'
def t_settle (K : PySem.W.Frag) : TS :=
  (tSeq (tAsg (tCB rDictD (tCons (tVar 0) tNil)) (gName 3))
    (tSeq (sDPut (tVar 3) (tVar 1) (tVar 2))
    (tRet (tVar 3))))
theorem pure_settle {v0 v1 v2 : V} {H : Hp} {Q : VK} {E : XK} (hh : pr_settle K v0 v1 v2 H Q E) : t_settle K ⟨fun _ H' => Q .non H', Q, fun _ _ => False, fun _ _ => False⟩ [some v0, some v1, some v2, none] H := by
  obtain ⟨a, ss, k, u, rfl, rfl, rfl, ha, hk, hl, q⟩ := hh
  unfold t_settle
  wtm_at "s"
  refine k_dictD ha (fun p H1 np s1 e1 => ?_)
  wtm_at "s"
  refine k_pD e1 (by unfold dS; simp; omega) ?_
  wtm_at "s"
  rw [dS_put hk]
  exact q p _ np (same_mut s1 np) upd_same
abbrev sp_settle (K : PySem.W.Frag) : Sp := fun vs H Q E => ∃ v0 v1 v2, vs = [v0, v1, v2] ∧ pr_settle K v0 v1 v2 H Q E
theorem ok_settle (T : Txt K mg A) : FnOk P w K mg base CX0 1 A.a_settle A.d_settle ["settled", "k", "turn"] (sp_settle K) := by
  refine T.F_settle.ok sc_settle (fun vs H Q E h => by obtain ⟨v0, v1, v2, rfl, _⟩ := h; rfl) (fun cdv A0 outer s H vs Q E hr h => ?_)
  obtain ⟨v0, v1, v2, rfl, h⟩ := h
  exact ⟨t_settle K, (pss_cons (ps_set (i := 3) sc_settle.nd rfl (Or.inl rfl) (pe_callTy q_dictD (by rfl) T.z_dict (by decide +kernel) (pa_cons (pv 0) pa_nil)))
      (pss_cons (ps_dput (Nat.lt_of_le_of_lt (Nat.add_le_add_left (by decide) _) hr.units) (pv 3) (pv 1) (pv 2) (by rfl))
      (pss_one (ps_ret (pv 3))))), pure_settle h⟩


theorem k_isiD {K : PySem.W.Frag} {H : Hp} {Q : VK} {p : Addr} {kvs : List (Key × V)} (e : H p = some (.dK kvs)) (h : Q (.bl true) H) : rIsi K [.ref p, .ty "dict"] H Q := k_isi (.base (.dK e)) (by decide +kernel) h
theorem k_isiDT {K : PySem.W.Frag} {H : Hp} {Q : VK} {p : Addr} {xs : List V} (e : SqT K H p xs) (h : Q (.bl false) H) : rIsi K [.ref p, .ty "dict"] H Q := by
  obtain ⟨t, rfl, ty⟩ := ty_tup e
  exact k_isi ty (by decide +kernel) h
theorem k_isiTT {K : PySem.W.Frag} {H : Hp} {Q : VK} {p : Addr} {xs : List V} (e : SqT K H p xs) (h : Q (.bl true) H) : rIsi K [.ref p, .ty "tuple"] H Q := by
  obtain ⟨t, rfl, ty⟩ := ty_tup e
  exact k_isi ty (by decide +kernel) h
theorem k_isiSI {K : PySem.W.Frag} {H : Hp} {Q : VK} {i : Int} (h : Q (.bl false) H) : rIsi K [.int i, .ty "str"] H Q := k_isi (.base (.int i)) (by decide +kernel) h
def SsOk (ss : List (Int × Int)) : Prop := ∀ k u, lookS ss k = some u → u = 0 ∨ u = 1
theorem SsOk.add {ss : List (Int × Int)} {k u : Int} (h : SsOk ss) (hk : lookS ss k = none) (hu : u = 0 ∨ u = 1) : SsOk (ss ++ [(k, u)]) := fun j v hv => by
  rw [look_add hk] at hv
  split at hv
  · cases hv; exact hu
  · exact h j v hv
theorem both_at {K : PySem.W.Frag} {H : Hp} {v : V} {n : Int} {ws : List (Int × Int)} {ls : List (List Int × List Int)} (d : Dp K H v (bothD ls)) (B : Both n ws ls) : ∃ b ys, v = .ref b ∧ SqL K H b ys ∧ ys.length = ws.length ∧ ∀ i : Nat, i < ws.length → ∃ l c p1 p2, ls[i]? = some l ∧ ys[i]? = some (.ref c) ∧ SqT K H c [.ref p1, .ref p2] ∧ SqL K H p1 (l.1.map V.int) ∧ SqL K H p2 (l.2.map V.int) ∧ (∀ t, decide (t ∈ l.1) = onB n (ws.getD i (0, 0)) 0 t) ∧ ∀ t, decide (t ∈ l.2) = onB n (ws.getD i (0, 0)) 1 t := by
  obtain ⟨b, ys, rfl, hb, dys⟩ := dp_list d
  have ly : ys.length = ls.length := by rw [dpa_len dys, List.length_map]
  refine ⟨b, ys, rfl, hb, by rw [ly, B.len], fun i hi => ?_⟩
  have hi2 : i < ls.length := by rw [B.len]; exact hi
  obtain ⟨v, hv, dv⟩ := dpa_get2 dys (i := i) (d := .tuple [dInts ls[i].1, dInts ls[i].2]) (by rw [List.getElem?_map, List.getElem?_eq_getElem hi2]; rfl)
  obtain ⟨c, x, y, rfl, hc, dx, dy⟩ := dp_tup2 dv
  obtain ⟨p1, rfl, h1⟩ := dp_ints dx
  obtain ⟨p2, rfl, h2⟩ := dp_ints dy
  have bm := B.mem i _ (List.getElem?_eq_getElem hi2)
  refine ⟨ls[i], c, p1, p2, List.getElem?_eq_getElem hi2, hv, hc, h1, h2, fun t => ?_, fun t => ?_⟩
  · rw [Bool.eq_iff_iff]; simpa using (bm t).1
  · rw [Bool.eq_iff_iff]; simpa using (bm t).2
def pr_sum_at (K : PySem.W.Frag) (v0 v1 v2 v3 : V) (H : Hp) (Q : VK) (_ : XK) : Prop := ∃ (n : Int) (ws : List (Int × Int)) (ls : List (List Int × List Int)) (ss : List (Int × Int)) (a : Addr) (e f : Int), Dp K H v0 (bothD ls) ∧ Both n ws ls ∧ ws.length ≤ 1000 ∧ v1 = .ref a ∧ H a = some (.dK (dS ss)) ∧ SsOk ss ∧ v2 = .int e ∧ v3 = .int f ∧ Q (.int (sumF n ws ss e f)) H
def t_sum_at (K : PySem.W.Frag) : TS :=
  (tSeq (tAsg (tC (.int 0)) (gName 4))
    (tSeq (tFor (iRng1 (tCons (tCB (rLenX K) (tCons (tVar 0) tNil)) tNil)) (gName 5)
      (tIfS (tB (tDIn (tVar 5) (tVar 1))) (tSeq (tAsg (tOp (rIxT K) (tOp (rIxL K) (tVar 0) (tVar 5)) (tDGet (tVar 1) (tVar 5))) (gName 6))
    (tAug 4 (tOp xAdd (tCB rIntOf (tCons (tOp (rIn K false) (tVar 2) (tVar 6)) tNil)) (tCB rIntOf (tCons (tOp (rIn K false) (tVar 3) (tVar 6)) tNil))) (ipI fun i j => i + j))) (tAug 4 (tCB rIntOf (tCons (tOp rNe (tOp (rIn K false) (tVar 2) (tOp (rIxT K) (tOp (rIxL K) (tVar 0) (tVar 5)) (tC (.int 0)))) (tOp (rIn K false) (tVar 3) (tOp (rIxT K) (tOp (rIxL K) (tVar 0) (tVar 5)) (tC (.int 0))))) tNil)) (ipI fun i j => i + j))))
    (tRet (tVar 4))))
theorem pure_sum_at {v0 v1 v2 v3 : V} {H : Hp} {Q : VK} {E : XK} (hh : pr_sum_at K v0 v1 v2 v3 H Q E) : t_sum_at K ⟨fun _ H' => Q .non H', Q, fun _ _ => False, fun _ _ => False⟩ [some v0, some v1, some v2, some v3, none, none, none] H := by
  obtain ⟨n, ws, ls, ss, a, e, f, d0, B, hz, rfl, ha, so, rfl, rfl, q⟩ := hh
  obtain ⟨b, ys, rfl, hb, ly, at_⟩ := both_at d0 B
  unfold t_sum_at
  wtm_at "s"
  refine forR (fun i σ' H' => H' = H ∧ ∃ s k5 k6, σ' = [some (.ref b), some (.ref a), some (.int e), some (.int f), some (.int s), k5, k6] ∧ s = sumTo n ws ss e f i) ⟨rfl, _, _, _, rfl, rfl⟩ ?_ ?_
  · rintro i σ' H1 hi ⟨rfl, s, k5, k6, rfl, hs⟩
    obtain ⟨l, c, p1, p2, hl, hv, hc, h1, h2, m1, m2⟩ := at_ i (by omega)
    rw [show (0 : Int) + (i : Nat) = (i : Nat) from Int.zero_add _]
    wtm_at "s"
    refine k_iD ha ?_
    rw [dS_val]
    have stp1 : sumTo n ws ss e f (i + 1) = sumTo n ws ss e f i + wt n (ws.getD i (0, 0)) (lookS ss (i : Int)) e f := rfl
    cases hk : lookS ss (i : Int) with
    | none =>
      rw [hk] at stp1
      simp only [Option.map_none, Option.isSome_none, Bool.false_eq_true, if_false]
      wtm_at "s"
      refine k_ixL hb (atI_nat hv) ?_
      wtm_at "s"
      refine k_ixL hb (atI_nat hv) ?_
      wtm_at "s"
      refine ⟨rfl, _, _, _, rfl, ?_⟩
      rw [stp1, m1, m1, hs]
      unfold wt
      congr 1
      cases onB n (ws.getD i (0, 0)) 0 e <;> cases onB n (ws.getD i (0, 0)) 0 f <;> rfl
    | some u =>
      rw [hk] at stp1
      simp only [Option.map_some, Option.isSome_some, Bool.false_eq_true, if_false]
      wtm_at "s"
      refine k_ixL hb (atI_nat hv) ?_
      wtm_at "s"
      refine k_gD1 (.inl ha) (by rw [dS_val, hk]; rfl) ?_
      rcases so _ _ hk with rfl | rfl
      · refine k_ixT hc (v := .ref p1) rfl ?_
        wtm_at "s"
        refine ⟨rfl, _, _, _, rfl, ?_⟩
        rw [stp1, m1, m1, hs]
        rfl
      · refine k_ixT hc (v := .ref p2) rfl ?_
        wtm_at "s"
        refine ⟨rfl, _, _, _, rfl, ?_⟩
        rw [stp1, m2, m2, hs]
        rfl
  · rintro σ' H1 ⟨rfl, s, k5, k6, rfl, hs⟩
    wtm_at "s"
    rw [ly, Int.toNat_natCast] at hs
    rw [hs]
    exact q
abbrev sp_sum_at (K : PySem.W.Frag) : Sp := fun vs H Q E => ∃ v0 v1 v2 v3, vs = [v0, v1, v2, v3] ∧ pr_sum_at K v0 v1 v2 v3 H Q E
theorem ok_sum_at (T : Txt K mg A) : FnOk P w K mg base CX0 1 A.a_sum_at A.d_sum_at ["both", "settled", "e", "f"] (sp_sum_at K) := by
  refine T.F_sum_at.ok sc_sum_at (fun vs H Q E h => by obtain ⟨v0, v1, v2, v3, rfl, _⟩ := h; rfl) (fun cdv A0 outer s H vs Q E hr h => ?_)
  obtain ⟨v0, v1, v2, v3, rfl, h⟩ := h
  exact ⟨t_sum_at K, (pss_cons (ps_set (i := 4) sc_sum_at.nd rfl (Or.inl rfl) pe_int)
      (pss_cons (ps_for PassesOwn.never rfl (pi_range1 (by rfl) T.z_range (pa_cons (pe_callB q_len (by rfl) T.z_len (by decide +kernel) (pa_cons (pv 0) pa_nil)) pa_nil)) (pg_name (i := 5) sc_sum_at.nd rfl (Or.inl rfl))
      (pss_one (ps_if (pt_cmp (pc_din (Nat.lt_of_le_of_lt (Nat.add_le_add_left (by decide) _) hr.units) (pv 5) (pv 1)) (by rfl)) (pss_cons (ps_set (i := 6) sc_sum_at.nd rfl (Or.inl rfl) (pe_ix ix_tup (pe_ix ix_list (pv 0) (pv 5) (fun _ _ => rfl)) (pe_dget (Nat.lt_of_le_of_lt (Nat.add_le_add_left (by decide) _) hr.units) (pv 1) (pv 5) (fun _ _ => rfl)) (fun _ _ => rfl)))
      (pss_one (ps_aug (i := 4) sc_sum_at.nd rfl (Or.inl rfl) (pe_op op_add (pe_callTy q_intB (by rfl) T.z_int (by decide +kernel) (pa_cons (pe_cmpR op_in_seq (pv 2) (pv 6) (by rfl)) pa_nil)) (pe_callTy q_intB (by rfl) T.z_int (by decide +kernel) (pa_cons (pe_cmpR op_in_seq (pv 3) (pv 6) (by rfl)) pa_nil))) ip_add))) (pss_one (ps_aug (i := 4) sc_sum_at.nd rfl (Or.inl rfl) (pe_callTy q_intB (by rfl) T.z_int (by decide +kernel) (pa_cons (pe_cmpR op_ne (pe_cmpR op_in_seq (pv 2) (pe_ix ix_tup (pe_ix ix_list (pv 0) (pv 5) (fun _ _ => rfl)) pe_int (fun _ _ => rfl)) (by rfl)) (pe_cmpR op_in_seq (pv 3) (pe_ix ix_tup (pe_ix ix_list (pv 0) (pv 5) (fun _ _ => rfl)) pe_int (fun _ _ => rfl)) (by rfl)) (nomark _)) pa_nil)) ip_add)))))
      (pss_one (ps_ret (pv 4))))), pure_sum_at h⟩


def pr_is_turn_paper (K : PySem.W.Frag) (d : Nat) (v0 v1 v2 v3 v4 : V) (H : Hp) (Q : VK) (_ : XK) : Prop := ∃ (n : Int) (ws : List (Int × Int)) (ls : List (List Int × List Int)) (ss : List (Int × Int)) (a : Addr) (m : Int) (D : PyData), Dp K H v0 (Net.ring n).d ∧ Dp K H v1 (bothD ls) ∧ Both n ws ls ∧ ws.length ≤ 1000 ∧ v2 = .int m ∧ -100000 ≤ m ∧ m ≤ 100000 ∧ v3 = .ref a ∧ H a = some (.dK (dS ss)) ∧ SsOk ss ∧ ss.length + d ≤ 900 ∧ fr ws ss < d ∧ Dp K H v4 D ∧
  ∀ H', Same H H' → Q (.bl (papJ n ws m d ss D)) H'
def spd_is_turn_paper (K : PySem.W.Frag) : Nat → Sp
  | 0 => fun _ _ _ _ => False
  | d + 1 => fun vs H Q E => ∃ v0 v1 v2 v3 v4, vs = [v0, v1, v2, v3, v4] ∧ pr_is_turn_paper K d v0 v1 v2 v3 v4 H Q E
def t_is_turn_paper (K : PySem.W.Frag) (sp : Sp) : TS :=
  (tSeq (tIfS (tOr (tNot (tB (tCB (rIsi K) (tCons (tVar 4) (tCons (tC (.ty "tuple")) tNil))))) (tTest (tOp rNe (tCB (rLenX K) (tCons (tVar 4) tNil)) (tC (.int 3))))) (tRet (tC (.bl false))) tNext)
    (tSeq (tIfS (tB (tCB (rIsi K) (tCons (tOp (rIxT K) (tVar 4) (tC (.int 0))) (tCons (tC (.ty "str")) tNil)))) (tSeq (tFor (iTup K (tSl (rSlT K) (tVar 4) (tPart (tC (.int 1))) tNoPart)) (gName 5)
      (tIfS (tOr (tNot (tB (tCall (sp_is_whole K) [] E0 (tCons (tVar 5) tNil)))) (tOr (tTest (tOp xLt (tVar 5) (tC (.int 0)))) (tTest (tOp xGe (tVar 5) (tOp (rIxT K) (tVar 0) (tC (.int 1))))))) (tRet (tC (.bl false))) tNext))
    (tRet (tAndV (tOp rEq (tOp (rIxT K) (tVar 4) (tC (.int 0))) (tC (.str (Str.ofString "ties")))) (tOp xGt (tCall (sp_sum_at K) [] E0 (tCons (tVar 1) (tCons (tVar 3) (tCons (tOp (rIxT K) (tVar 4) (tC (.int 1))) (tCons (tOp (rIxT K) (tVar 4) (tC (.int 2))) tNil))))) (tOp xMul (tC (.int 2)) (tVar 2)))))) tNext)
    (tSeq (tAsg (tVar 4) (gTup K 3 (gCons (gName 6) (gCons (gName 7) (gCons (gName 8) gNil)))))
    (tSeq (tIfS (tOr (tNot (tB (tCall (sp_is_whole K) [] E0 (tCons (tVar 6) tNil)))) (tOr (tTest (tOp xLt (tVar 6) (tC (.int 0)))) (tOr (tTest (tOp xGe (tVar 6) (tCB (rLenX K) (tCons (tVar 1) tNil)))) (tB (tDIn (tVar 6) (tVar 3)))))) (tRet (tC (.bl false))) tNext)
    (tSeq (tIfS (tNot (tB (tCall sp [] E0 (tCons (tVar 0) (tCons (tVar 1) (tCons (tVar 2) (tCons (tCall (sp_settle K) [] E0 (tCons (tVar 3) (tCons (tVar 6) (tCons (tC (.int 0)) tNil)))) (tCons (tVar 7) tNil)))))))) (tRet (tC (.bl false))) tNext)
    (tRet (tCall sp [] E0 (tCons (tVar 0) (tCons (tVar 1) (tCons (tVar 2) (tCons (tCall (sp_settle K) [] E0 (tCons (tVar 3) (tCons (tVar 6) (tCons (tC (.int 1)) tNil)))) (tCons (tVar 8) tNil))))))))))))
theorem pure_is_turn_paper {d : Nat} {v0 v1 v2 v3 v4 : V} {H : Hp} {Q : VK} {E : XK} (hh : pr_is_turn_paper K d v0 v1 v2 v3 v4 H Q E) : t_is_turn_paper K (spd_is_turn_paper K d) ⟨fun _ H' => Q .non H', Q, fun _ _ => False, fun _ _ => False⟩ [some v0, some v1, some v2, some v3, some v4, none, none, none, none] H := by
  obtain ⟨n, ws, ls, ss, a, m, D, d0, d1, B, hz, rfl, m0, m1, rfl, ha, so, sd, hd, dD, q⟩ := hh
  obtain ⟨b, ys, rfl, hb, ly, at_⟩ := both_at d1 B
  clear at_
  obtain ⟨an, y, rfl, hn, hy⟩ := dp_net d0
  obtain rfl := dp_int hy
  obtain ⟨d, rfl⟩ : ∃ d', d = d' + 1 := ⟨d - 1, by omega⟩
  have q0 := q H (Same.refl _)
  unfold t_is_turn_paper
  wtm_at "s"
  refine k_isiTupD dD ?_
  rcases (bcases (isD "tuple" D)).symm with c1 | c1
  · rw [c1]
    rw [papJ_not c1] at q0
    wtm_at "s"
    exact q0
  obtain ⟨ds, rfl⟩ := isD_tup c1
  rw [c1]
  obtain ⟨p, xs, rfl, hp, dx⟩ := dp_tup dD
  wtm_at "s"
  refine k_lenT hp ?_
  wtm_at "s"
  refine k_itn (fun c2 => ?_) (fun c2 => ?_)
  · rw [papJ_len (by have := dpa_len dx; omega)] at q0
    wtm_at "s"
    exact q0
  obtain ⟨x, y, z, da, db, dc, rfl, rfl, hx, hy, hz'⟩ := dpa3 dx (by have := dpa_len dx; omega)
  clear dx c1 c2
  wtm_at "s"
  refine k_isiStrD hx ?_
  rcases bcases (isD "str" da) with c1 | c1
  · rw [c1]
    have q1 : ∀ H', Same H H' → Q (.bl ((tieD n db && tieD n dc) && (isTies da && decide (2 * m < sumF n ws ss (intD db) (intD dc))))) H' := fun H' s => by
      have := q H' s
      unfold papJ at this
      rwa [if_pos c1] at this
    clear q q0
    wtm_at "s"
    refine k_slT hp (by rw [show HT.sIx [x, y, z].length 0 (some 1) = 1 from rfl]; omega) (fun p2 H1 np s1 e1 => ?_)
    have e1' : H1 p2 = some (.tup [y, z]) := e1
    refine forT (stp e1') (fun i σ' H' => H' = H1 ∧ (∃ k5, σ' = [some (.ref an), some (.ref b), some (.int m), some (.ref a), some (.ref p), k5, none, none, none]) ∧ ∀ dd ∈ [db, dc].take i, tieD n dd = true) ⟨rfl, ⟨_, rfl⟩, fun dd z => by simp at z⟩ (fun i σ' H' _ e => e.1 ▸ stp e1') ?_ ?_
    · rintro i w σ' H2 hw ⟨rfl, ⟨k5, rfl⟩, tk⟩
      have dyz : DpAll K H2 [y, z] [db, dc] := dpa_same s1 (.cons hy (.cons hz' .nil))
      obtain ⟨dd, hdd, dw⟩ := dpa_get dyz hw
      have mem : dd ∈ [db, dc] := List.mem_of_getElem? hdd
      have no : tieD n dd = false → Q (.bl false) H2 := fun e => by
        have := q1 H2 s1
        have z : (tieD n db && tieD n dc) = false := by
          rcases List.mem_cons.mp mem with rfl | mem
          · rw [e]; rfl
          · rw [← List.mem_singleton.mp mem, e, Bool.and_false]
        rwa [z, Bool.false_and] at this
      wtm_at "s"
      refine ⟨_, rfl, dd, dw, ?_⟩
      rcases bcases (wholeD dd) with c2 | c2
      · rw [c2]
        obtain rfl := dp_whole dw c2
        wtm_at "s"
        refine k_it (fun c3 => ?_) (fun c3 => ?_)
        · wtm_at "s"
          exact no (by unfold tieD; rw [decide_eq_false (by omega : ¬ 0 ≤ intD dd)]; simp)
        wtm_at "s"
        refine k_it (fun c4 => ?_) (fun c4 => ?_)
        · wtm_at "s"
          exact no (by unfold tieD; rw [decide_eq_false (by omega : ¬ intD dd < n)]; simp)
        wtm_at "s"
        refine ⟨rfl, ⟨_, rfl⟩, fun g hg => ?_⟩
        rw [List.take_add_one, hdd] at hg
        rcases List.mem_append.mp hg with hg | hg
        · exact tk g hg
        · obtain rfl : g = dd := by simpa using hg
          unfold tieD
          rw [c2, decide_eq_true (by omega : 0 ≤ intD g), decide_eq_true (by omega : intD g < n)]; rfl
      · rw [c2]
        wtm_at "s"
        exact no (by unfold tieD; rw [c2]; rfl)
    · rintro σ' H2 ⟨rfl, ⟨k5, rfl⟩, tk⟩
      have tb : tieD n db = true := tk _ (by simp)
      have tc : tieD n dc = true := tk _ (by simp)
      have wb : wholeD db = true := by unfold tieD at tb; simp at tb; exact tb.1.1
      have wc : wholeD dc = true := by unfold tieD at tc; simp at tc; exact tc.1.1
      obtain rfl := dp_whole hy wb
      obtain rfl := dp_whole hz' wc
      obtain ⟨s, rfl⟩ := isD_str c1
      have hp1 := same_seqT s1 hp
      have q2 := q1 H2 s1
      rw [tb, tc, Bool.true_and, Bool.true_and, show isTies (.str s) = decide (s = Str.ofString "ties") from rfl] at q2
      wtm_at "s"
      obtain rfl := dp_str hx
      refine k_eqS ?_
      wtm_at "s"
      rcases bcases (decide (s = Str.ofString "ties")) with c2 | c2
      · rw [c2] at q2 ⊢
        rw [Bool.true_and] at q2
        wtm_at "s"
        refine ⟨_, _, _, _, rfl, n, ws, ls, ss, a, intD db, intD dc, dp_same s1 d1, B, hz, rfl, s1 _ _ ha, so, rfl, rfl, ?_⟩
        wtm_at "s"
        exact q2
      · rw [c2] at q2 ⊢
        rw [Bool.false_and] at q2
        wtm_at "s"
        exact q2
  · rw [c1]
    have q1 : ∀ H', Same H H' → Q (.bl ((wholeD da && decide (0 ≤ intD da) && decide (intD da < ws.length) && (lookS ss (intD da)).isNone) && (papJ n ws m d (ss ++ [(intD da, 0)]) db && papJ n ws m d (ss ++ [(intD da, 1)]) dc))) H' := fun H' s => by
      have := q H' s
      unfold papJ at this
      rwa [if_neg (by rw [c1]; decide)] at this
    have no : (wholeD da && decide (0 ≤ intD da) && decide (intD da < ws.length) && (lookS ss (intD da)).isNone) = false → Q (.bl false) H := fun e => by
      have := q1 H (Same.refl _)
      rwa [e, Bool.false_and] at this
    clear q q0
    wtm_at "s"
    refine ⟨_, rfl, da, hx, ?_⟩
    rcases (bcases (wholeD da)).symm with c2 | c2
    · rw [c2]
      wtm_at "s"
      exact no (by rw [c2]; rfl)
    obtain rfl := dp_whole hx c2
    rw [c2]
    wtm_at "s"
    refine k_it (fun c3 => ?_) (fun c3 => ?_)
    · wtm_at "s"
      exact no (by rw [decide_eq_false (by omega : ¬ 0 ≤ intD da)]; simp)
    wtm_at "s"
    refine k_it (fun c4 => ?_) (fun c4 => ?_)
    · wtm_at "s"
      exact no (by rw [decide_eq_false (by omega : ¬ intD da < ws.length)]; simp)
    wtm_at "s"
    refine k_iD ha ?_
    rw [dS_val]
    cases hk : lookS ss (intD da) with
    | some u =>
      simp only [Option.map_some, Option.isSome_some, Bool.false_eq_true, if_false]
      wtm_at "s"
      exact no (by rw [hk]; simp)
    | none =>
      simp only [Option.map_none, Option.isSome_none, Bool.false_eq_true, if_false]
      have k0 : 0 ≤ intD da := by omega
      have k1 : intD da < ws.length := by omega
      have frl := fun u => fr_lt (u := u) k0 k1 hk
      have q2 : ∀ H', Same H H' → Q (.bl (papJ n ws m d (ss ++ [(intD da, 0)]) db && papJ n ws m d (ss ++ [(intD da, 1)]) dc)) H' := fun H' s => by
        have := q1 H' s
        rw [c2, decide_eq_true k0, decide_eq_true k1, hk] at this
        exact this
      clear q1 no
      wtm_at "s"
      refine ⟨_, _, _, rfl, a, ss, intD da, 0, rfl, rfl, rfl, ha, hk, by omega, fun p1 H1 np1 s1 e1 => ?_⟩
      wtm_at "s"
      have f0 := frl 0
      have f1 := frl 1
      refine ⟨_, _, _, _, _, rfl, n, ws, ls, ss ++ [(intD da, 0)], p1, m, db, dp_same s1 d0, dp_same s1 d1, B, hz, rfl, m0, m1, rfl, e1, so.add hk (.inl rfl), by simp; omega, by omega, dp_same s1 hy, fun H2 s2 => ?_⟩
      have s02 := s1.trans s2
      have q3 := q2
      rcases (bcases (papJ n ws m d (ss ++ [(intD da, 0)]) db)).symm with c5 | c5
      · rw [c5] at q3 ⊢
        wtm_at "s"
        exact q3 H2 s02
      rw [c5] at q3 ⊢
      wtm_at "s"
      refine ⟨_, _, _, rfl, a, ss, intD da, 1, rfl, rfl, rfl, s02 _ _ ha, hk, by omega, fun p3 H3 np3 s3 e3 => ?_⟩
      wtm_at "s"
      have s03 := s02.trans s3
      refine ⟨_, _, _, _, _, rfl, n, ws, ls, ss ++ [(intD da, 1)], p3, m, dc, dp_same s03 d0, dp_same s03 d1, B, hz, rfl, m0, m1, rfl, e3, so.add hk (.inr rfl), by simp; omega, by omega, dp_same s03 hz', fun H4 s4 => ?_⟩
      exact q3 H4 (s03.trans s4)
theorem okd_is_turn_paper (T : Txt K mg A) : ∀ d : Nat, FnOk P w K mg base CX0 (2 + d) A.a_is_turn_paper A.d_is_turn_paper ["net", "both", "m", "settled", "paper"] (spd_is_turn_paper K d)
  | 0 => T.F_is_turn_paper.ok sc_is_turn_paper (fun vs H Q E h => False.elim h) (fun cdv A0 outer s H vs Q E hr h => False.elim h)
  | d + 1 => by
    refine T.F_is_turn_paper.ok sc_is_turn_paper (fun vs H Q E h => by obtain ⟨v0, v1, v2, v3, v4, rfl, _⟩ := h; rfl) (fun cdv A0 outer s H vs Q E hr h => ?_)
    obtain ⟨v0, v1, v2, v3, v4, rfl, h⟩ := h
    exact ⟨t_is_turn_paper K (spd_is_turn_paper K d), (pss_cons (ps_if (PW.pt (pw_or (pt_not (pt_val (pe_callB q_isi (by rfl) T.z_isinstance (by decide +kernel) (pa_cons (pv 4) (pa_cons (pe_bltn (v := .ty "tuple") (by rfl) T.z_tuple (by decide +kernel) rfl) pa_nil))))) (pw_or1 (pt_cmpR op_ne (pe_callB q_len (by rfl) T.z_len (by decide +kernel) (pa_cons (pv 4) pa_nil)) pe_int (nomark _))))) (pss_one (ps_ret pe_bl)) pss_nil)
      (pss_cons (ps_if (pt_val (pe_callB q_isi (by rfl) T.z_isinstance (by decide +kernel) (pa_cons (pe_ix ix_tup (pv 4) pe_int (fun _ _ => rfl)) (pa_cons (pe_bltn (v := .ty "str") (by rfl) T.z_str (by decide +kernel) rfl) pa_nil)))) (pss_cons (ps_for PassesOwn.never rfl (pi_tup (pe_slice sl_tup (pv 4) (po_some pe_int) po_none)) (pg_name (i := 5) sc_is_turn_paper.nd rfl (Or.inl rfl))
      (pss_one (ps_if (PW.pt (pw_or (pt_not (pt_val (pe_call (ok_is_whole T) (hr.mono (by first | decide | omega | (simp only [Nat.add_eq]; omega))) (by rfl) T.g_is_whole T.F_is_whole.kp T.b_is_whole .nil pass0 (pa_cons (pv 5) pa_nil)))) (pw_or (pt_cmpR op_lt (pv 5) pe_int (nomark _)) (pw_or1 (pt_cmpR op_ge (pv 5) (pe_ix ix_tup (pv 0) pe_int (fun _ _ => rfl)) (nomark _)))))) (pss_one (ps_ret pe_bl)) pss_nil)))
      (pss_one (ps_ret (pe_and (pe_cmpR op_eq (pe_ix ix_tup (pv 4) pe_int (fun _ _ => rfl)) pe_str (nomark _)) (pe_one (pe_cmpR op_gt (pe_call (ok_sum_at T) (hr.mono (by first | decide | omega | (simp only [Nat.add_eq]; omega))) (by rfl) T.g_sum_at T.F_sum_at.kp T.b_sum_at .nil pass0 (pa_cons (pv 1) (pa_cons (pv 3) (pa_cons (pe_ix ix_tup (pv 4) pe_int (fun _ _ => rfl)) (pa_cons (pe_ix ix_tup (pv 4) pe_int (fun _ _ => rfl)) pa_nil))))) (pe_op op_mul pe_int (pv 2)) (nomark _))))))) pss_nil)
      (pss_cons (ps_asg (pv 4) (pg_tup (by rfl) (pgs_cons (pg_name (i := 6) sc_is_turn_paper.nd rfl (Or.inl rfl)) (pgs_cons (pg_name (i := 7) sc_is_turn_paper.nd rfl (Or.inl rfl)) (pgs_cons (pg_name (i := 8) sc_is_turn_paper.nd rfl (Or.inl rfl)) pgs_nil)))))
      (pss_cons (ps_if (PW.pt (pw_or (pt_not (pt_val (pe_call (ok_is_whole T) (hr.mono (by first | decide | omega | (simp only [Nat.add_eq]; omega))) (by rfl) T.g_is_whole T.F_is_whole.kp T.b_is_whole .nil pass0 (pa_cons (pv 6) pa_nil)))) (pw_or (pt_cmpR op_lt (pv 6) pe_int (nomark _)) (pw_or (pt_cmpR op_ge (pv 6) (pe_callB q_len (by rfl) T.z_len (by decide +kernel) (pa_cons (pv 1) pa_nil)) (nomark _)) (pw_or1 (pt_cmp (pc_din (Nat.lt_of_le_of_lt (Nat.add_le_add_left (by decide) _) hr.units) (pv 6) (pv 3)) (by rfl))))))) (pss_one (ps_ret pe_bl)) pss_nil)
      (pss_cons (ps_if (pt_not (pt_val (pe_call (okd_is_turn_paper T d) (hr.mono (by first | decide | omega | (simp only [Nat.add_eq]; omega))) (by rfl) T.g_is_turn_paper T.F_is_turn_paper.kp T.b_is_turn_paper .nil pass0 (pa_cons (pv 0) (pa_cons (pv 1) (pa_cons (pv 2) (pa_cons (pe_call (ok_settle T) (hr.mono (by first | decide | omega | (simp only [Nat.add_eq]; omega))) (by rfl) T.g_settle T.F_settle.kp T.b_settle .nil pass0 (pa_cons (pv 3) (pa_cons (pv 6) (pa_cons pe_int pa_nil)))) (pa_cons (pv 7) pa_nil)))))))) (pss_one (ps_ret pe_bl)) pss_nil)
      (pss_one (ps_ret (pe_call (okd_is_turn_paper T d) (hr.mono (by first | decide | omega | (simp only [Nat.add_eq]; omega))) (by rfl) T.g_is_turn_paper T.F_is_turn_paper.kp T.b_is_turn_paper .nil pass0 (pa_cons (pv 0) (pa_cons (pv 1) (pa_cons (pv 2) (pa_cons (pe_call (ok_settle T) (hr.mono (by first | decide | omega | (simp only [Nat.add_eq]; omega))) (by rfl) T.g_settle T.F_settle.kp T.b_settle .nil pass0 (pa_cons (pv 3) (pa_cons (pv 6) (pa_cons pe_int pa_nil)))) (pa_cons (pv 8) pa_nil))))))))))))), pure_is_turn_paper h⟩
abbrev sp_is_turn_paper (K : PySem.W.Frag) : Sp := fun vs H Q E => ∃ v0 v1 v2 v3 v4, vs = [v0, v1, v2, v3, v4] ∧ ∃ d : Nat, d < 12 ∧ pr_is_turn_paper K d v0 v1 v2 v3 v4 H Q E
theorem ok_is_turn_paper (T : Txt K mg A) : FnOk P w K mg base CX0 14 A.a_is_turn_paper A.d_is_turn_paper ["net", "both", "m", "settled", "paper"] (sp_is_turn_paper K) := by
  refine T.F_is_turn_paper.ok sc_is_turn_paper (fun vs H Q E h => by obtain ⟨v0, v1, v2, v3, v4, rfl, _⟩ := h; rfl) (fun cdv A0 outer s H vs Q E hr h => ?_)
  obtain ⟨v0, v1, v2, v3, v4, rfl, d, hd, h⟩ := h
  exact ⟨t_is_turn_paper K (spd_is_turn_paper K d), (pss_cons (ps_if (PW.pt (pw_or (pt_not (pt_val (pe_callB q_isi (by rfl) T.z_isinstance (by decide +kernel) (pa_cons (pv 4) (pa_cons (pe_bltn (v := .ty "tuple") (by rfl) T.z_tuple (by decide +kernel) rfl) pa_nil))))) (pw_or1 (pt_cmpR op_ne (pe_callB q_len (by rfl) T.z_len (by decide +kernel) (pa_cons (pv 4) pa_nil)) pe_int (nomark _))))) (pss_one (ps_ret pe_bl)) pss_nil)
      (pss_cons (ps_if (pt_val (pe_callB q_isi (by rfl) T.z_isinstance (by decide +kernel) (pa_cons (pe_ix ix_tup (pv 4) pe_int (fun _ _ => rfl)) (pa_cons (pe_bltn (v := .ty "str") (by rfl) T.z_str (by decide +kernel) rfl) pa_nil)))) (pss_cons (ps_for PassesOwn.never rfl (pi_tup (pe_slice sl_tup (pv 4) (po_some pe_int) po_none)) (pg_name (i := 5) sc_is_turn_paper.nd rfl (Or.inl rfl))
      (pss_one (ps_if (PW.pt (pw_or (pt_not (pt_val (pe_call (ok_is_whole T) (hr.mono (by first | decide | omega | (simp only [Nat.add_eq]; omega))) (by rfl) T.g_is_whole T.F_is_whole.kp T.b_is_whole .nil pass0 (pa_cons (pv 5) pa_nil)))) (pw_or (pt_cmpR op_lt (pv 5) pe_int (nomark _)) (pw_or1 (pt_cmpR op_ge (pv 5) (pe_ix ix_tup (pv 0) pe_int (fun _ _ => rfl)) (nomark _)))))) (pss_one (ps_ret pe_bl)) pss_nil)))
      (pss_one (ps_ret (pe_and (pe_cmpR op_eq (pe_ix ix_tup (pv 4) pe_int (fun _ _ => rfl)) pe_str (nomark _)) (pe_one (pe_cmpR op_gt (pe_call (ok_sum_at T) (hr.mono (by first | decide | omega | (simp only [Nat.add_eq]; omega))) (by rfl) T.g_sum_at T.F_sum_at.kp T.b_sum_at .nil pass0 (pa_cons (pv 1) (pa_cons (pv 3) (pa_cons (pe_ix ix_tup (pv 4) pe_int (fun _ _ => rfl)) (pa_cons (pe_ix ix_tup (pv 4) pe_int (fun _ _ => rfl)) pa_nil))))) (pe_op op_mul pe_int (pv 2)) (nomark _))))))) pss_nil)
      (pss_cons (ps_asg (pv 4) (pg_tup (by rfl) (pgs_cons (pg_name (i := 6) sc_is_turn_paper.nd rfl (Or.inl rfl)) (pgs_cons (pg_name (i := 7) sc_is_turn_paper.nd rfl (Or.inl rfl)) (pgs_cons (pg_name (i := 8) sc_is_turn_paper.nd rfl (Or.inl rfl)) pgs_nil)))))
      (pss_cons (ps_if (PW.pt (pw_or (pt_not (pt_val (pe_call (ok_is_whole T) (hr.mono (by first | decide | omega | (simp only [Nat.add_eq]; omega))) (by rfl) T.g_is_whole T.F_is_whole.kp T.b_is_whole .nil pass0 (pa_cons (pv 6) pa_nil)))) (pw_or (pt_cmpR op_lt (pv 6) pe_int (nomark _)) (pw_or (pt_cmpR op_ge (pv 6) (pe_callB q_len (by rfl) T.z_len (by decide +kernel) (pa_cons (pv 1) pa_nil)) (nomark _)) (pw_or1 (pt_cmp (pc_din (Nat.lt_of_le_of_lt (Nat.add_le_add_left (by decide) _) hr.units) (pv 6) (pv 3)) (by rfl))))))) (pss_one (ps_ret pe_bl)) pss_nil)
      (pss_cons (ps_if (pt_not (pt_val (pe_call (okd_is_turn_paper T d) (hr.mono (by first | decide | omega | (simp only [Nat.add_eq]; omega))) (by rfl) T.g_is_turn_paper T.F_is_turn_paper.kp T.b_is_turn_paper .nil pass0 (pa_cons (pv 0) (pa_cons (pv 1) (pa_cons (pv 2) (pa_cons (pe_call (ok_settle T) (hr.mono (by first | decide | omega | (simp only [Nat.add_eq]; omega))) (by rfl) T.g_settle T.F_settle.kp T.b_settle .nil pass0 (pa_cons (pv 3) (pa_cons (pv 6) (pa_cons pe_int pa_nil)))) (pa_cons (pv 7) pa_nil)))))))) (pss_one (ps_ret pe_bl)) pss_nil)
      (pss_one (ps_ret (pe_call (okd_is_turn_paper T d) (hr.mono (by first | decide | omega | (simp only [Nat.add_eq]; omega))) (by rfl) T.g_is_turn_paper T.F_is_turn_paper.kp T.b_is_turn_paper .nil pass0 (pa_cons (pv 0) (pa_cons (pv 1) (pa_cons (pv 2) (pa_cons (pe_call (ok_settle T) (hr.mono (by first | decide | omega | (simp only [Nat.add_eq]; omega))) (by rfl) T.g_settle T.F_settle.kp T.b_settle .nil pass0 (pa_cons (pv 3) (pa_cons (pv 6) (pa_cons pe_int pa_nil)))) (pa_cons (pv 8) pa_nil))))))))))))), pure_is_turn_paper h⟩


def pr_turn_judged (K : PySem.W.Frag) (v0 v1 v2 v3 : V) (H : Hp) (Q : VK) (_ : XK) : Prop := ∃ (n : Int) (ws : List (Int × Int)) (m : Int) (D : PyData), Dp K H v0 (Net.ring n).d ∧ (Net.ring n).ok ∧ Dp K H v1 (dPairs ws) ∧ ws.length < 11 ∧ (∀ w ∈ ws, isWay (.ring n) w.1 w.2) ∧ v2 = .int m ∧ 0 ≤ m ∧ m ≤ 100000 ∧ Dp K H v3 D ∧
  ∀ H', Same H H' → Q (.bl (papJ n ws m 11 [] D)) H'
def t_turn_judged (K : PySem.W.Frag) : TS :=
  (tSeq (tDrop (tCall (sp_look_ring K) [] E0 (tCons (tVar 0) tNil)))
    (tSeq (tDrop (tCall (sp_look_few K) [] E0 (tCons (tVar 0) (tCons (tVar 1) (tCons (tC (.int 14)) tNil)))))
    (tSeq (tDrop (tCall (sp_look_number K) [] E0 (tCons (tVar 2) tNil)))
    (tRet (tCall (sp_is_turn_paper K) [] E0 (tCons (tVar 0) (tCons (tCall (sp_lying K) [] E0 (tCons (tVar 0) (tCons (tVar 1) tNil))) (tCons (tVar 2) (tCons tDNewK (tCons (tVar 3) tNil))))))))))
theorem pure_turn_judged {v0 v1 v2 v3 : V} {H : Hp} {Q : VK} {E : XK} (hh : pr_turn_judged K v0 v1 v2 v3 H Q E) : t_turn_judged K ⟨fun _ H' => Q .non H', Q, fun _ _ => False, fun _ _ => False⟩ [some v0, some v1, some v2, some v3] H := by
  obtain ⟨n, ws, m, D, d0, ok, d1, hz, hw, rfl, m0, m1, dD, q⟩ := hh
  unfold t_turn_judged
  wtm_at "s"
  refine ⟨_, rfl, n, d0, ok, ?_⟩
  wtm_at "s"
  refine ⟨_, _, _, rfl, .ring n, ws, 14, d0, ok, d1, by omega, hw, rfl, by omega, ?_⟩
  wtm_at "s"
  refine ⟨_, rfl, m, rfl, m0, ?_⟩
  wtm_at "s"
  refine ⟨_, _, rfl, n, ws, [], d0, ok, d1, by omega, hw, (fun x hx => by cases hx), fun p ls H1 np s1 dl B => ?_⟩
  wtm_at "s"
  refine kD (fun a H2 na s2 e2 => ?_)
  have s02 := s1.trans s2
  wtm_at "s"
  refine ⟨_, _, _, _, _, rfl, 11, ?_, n, ws, ls, [], a, m, D, dp_same s02 d0, dp_same ((hid_same _ _).trans s2) dl, B, by omega, rfl, by omega, m1, rfl, e2, (fun k u z => by cases z), by decide, by rw [fr_nil]; omega, dp_same s02 dD, fun H3 s3 => q H3 (s02.trans s3)⟩
  decide
abbrev sp_turn_judged (K : PySem.W.Frag) : Sp := fun vs H Q E => ∃ v0 v1 v2 v3, vs = [v0, v1, v2, v3] ∧ pr_turn_judged K v0 v1 v2 v3 H Q E
theorem ok_turn_judged (T : Txt K mg A) : FnOk P w K mg base CX0 15 A.a_turn_judged A.d_turn_judged ["net", "ways", "m", "paper"] (sp_turn_judged K) := by
  refine T.F_turn_judged.ok sc_turn_judged (fun vs H Q E h => by obtain ⟨v0, v1, v2, v3, rfl, _⟩ := h; rfl) (fun cdv A0 outer s H vs Q E hr h => ?_)
  obtain ⟨v0, v1, v2, v3, rfl, h⟩ := h
  exact ⟨t_turn_judged K, (pss_cons (ps_expr (pe_call (ok_look_ring T) (hr.mono (by decide)) (by rfl) T.g_look_ring T.F_look_ring.kp T.b_look_ring .nil pass0 (pa_cons (pv 0) pa_nil)))
      (pss_cons (ps_expr (pe_call (ok_look_few T) (hr.mono (by decide)) (by rfl) T.g_look_few T.F_look_few.kp T.b_look_few .nil pass0 (pa_cons (pv 0) (pa_cons (pv 1) (pa_cons (pe_glob (v := .int 14) (by rfl) T.c_MOST_turning ⟨_, rfl⟩) pa_nil)))))
      (pss_cons (ps_expr (pe_call (ok_look_number T) (hr.mono (by decide)) (by rfl) T.g_look_number T.F_look_number.kp T.b_look_number .nil pass0 (pa_cons (pv 2) pa_nil)))
      (pss_one (ps_ret (pe_call (ok_is_turn_paper T) (hr.mono (by decide)) (by rfl) T.g_is_turn_paper T.F_is_turn_paper.kp T.b_is_turn_paper .nil pass0 (pa_cons (pv 0) (pa_cons (pe_call (ok_lying T) (hr.mono (by decide)) (by rfl) T.g_lying T.F_lying.kp T.b_lying .nil pass0 (pa_cons (pv 0) (pa_cons (pv 1) pa_nil))) (pa_cons (pv 2) (pa_cons pe_dnewK (pa_cons (pv 3) pa_nil))))))))))), pure_turn_judged h⟩


def pr_law_mix (K : PySem.W.Frag) (v0 v1 : V) (H : Hp) (Q : VK) (_ : XK) : Prop := ∃ x k : Int, v0 = .int x ∧ v1 = .int k ∧ 0 ≤ x ∧ x < 2147483629 ∧ 0 ≤ k ∧ k < 10000000 ∧ ∀ r, 0 ≤ r → r < 2147483587 → Q (.int r) H
def t_law_mix (K : PySem.W.Frag) : TS :=
  (tSeq (tAsg (tOp xMod (tOp xMul (tOp xAdd (tOp xAdd (tOp xMul (tVar 0) (tVar 0)) (tOp xMul (tVar 1) (tVar 0))) (tOp xMul (tOp xMul (tC (.int 7)) (tVar 1)) (tVar 1))) (tC (.int 1103515245))) (tC (.int 2147483629))) (gName 2))
    (tRet (tOp xMod (tOp xMul (tVar 2) (tVar 2)) (tC (.int 2147483587)))))
theorem pure_law_mix {v0 v1 : V} {H : Hp} {Q : VK} {E : XK} (h : pr_law_mix K v0 v1 H Q E) : t_law_mix K ⟨fun _ H' => Q .non H', Q, fun _ _ => False, fun _ _ => False⟩ [some v0, some v1, none] H := by
  obtain ⟨x, k, rfl, rfl, x0, x1, k0, k1, q⟩ := h
  unfold t_law_mix
  wtm_at "s"
  exact q _ (Int.emod_nonneg _ (by decide)) (Int.emod_lt_of_pos _ (by decide))
abbrev sp_law_mix (K : PySem.W.Frag) : Sp := fun vs H Q E => ∃ v0 v1, vs = [v0, v1] ∧ pr_law_mix K v0 v1 H Q E
theorem ok_law_mix (T : Txt K mg A) : FnOk P w K mg base CX0 1 A.a_law_mix A.d_law_mix ["_law_number", "_law_k"] (sp_law_mix K) := by
  refine T.F_law_mix.ok sc_law_mix (fun vs H Q E h => by obtain ⟨v0, v1, rfl, _⟩ := h; rfl) (fun cdv A0 outer s H vs Q E hr h => ?_)
  obtain ⟨v0, v1, rfl, h⟩ := h
  exact ⟨t_law_mix K, (pss_cons (ps_set (i := 2) sc_law_mix.nd rfl (Or.inl rfl) (pe_op op_mod (pe_op op_mul (pe_op op_add (pe_op op_add (pe_op op_mul (pv 0) (pv 0)) (pe_op op_mul (pv 1) (pv 0))) (pe_op op_mul (pe_op op_mul pe_int (pv 1)) (pv 1))) pe_int) pe_int))
      (pss_one (ps_ret (pe_op op_mod (pe_op op_mul (pv 2) (pv 2)) pe_int)))), pure_law_mix h⟩
def pr_law_left (K : PySem.W.Frag) (v0 : V) (H : Hp) (Q : VK) (_ : XK) : Prop := ∃ x : Int, v0 = .int x ∧ ∀ p H', H p = none → Same H H' → Le H' p 0 → Q (.ref p) H'
def t_law_left (K : PySem.W.Frag) : TS :=
  (tSeq (tIfS (tTest (tOp xLt (tVar 0) (tOp xPow (tC (.int 10)) (tC (.int 18))))) (tRet (tLst (tCons (tOp xMod (tVar 0) (tC (.int 2147483629))) (tCons (tC (.int 0)) (tCons (tC (.int 0)) tNil))))) tNext)
    (tRet (tLst (tCons (tOp xSub (tVar 0) (tOp xPow (tC (.int 10)) (tC (.int 18)))) (tCons (tC (.int 1)) (tCons (tC (.int 0)) tNil))))))
theorem pure_law_left {v0 : V} {H : Hp} {Q : VK} {E : XK} (h : pr_law_left K v0 H Q E) : t_law_left K ⟨fun _ H' => Q .non H', Q, fun _ _ => False, fun _ _ => False⟩ [some v0] H := by
  obtain ⟨x, rfl, q⟩ := h
  unfold t_law_left
  wtm_at "s"
  refine k_it (fun c => ?_) (fun c => ?_)
  · wtm_at "s"
    refine ⟨sz (by simp), fun p np => ?_⟩
    exact q p _ np (same_new np) ⟨⟨_, _, upd_same, fun _ => ⟨Int.emod_nonneg _ (by decide), Int.emod_lt_of_pos _ (by decide)⟩⟩, by decide⟩
  · wtm_at "s"
    refine ⟨sz (by simp), fun p np => ?_⟩
    exact q p _ np (same_new np) ⟨⟨_, _, upd_same, fun z => absurd z (by decide)⟩, by decide⟩
abbrev sp_law_left (K : PySem.W.Frag) : Sp := fun vs H Q E => ∃ v0, vs = [v0] ∧ pr_law_left K v0 H Q E
theorem ok_law_left (T : Txt K mg A) : FnOk P w K mg base CX0 1 A.a_law_left A.d_law_left ["_law_cell"] (sp_law_left K) := by
  refine T.F_law_left.ok sc_law_left (fun vs H Q E h => by obtain ⟨v0, rfl, _⟩ := h; rfl) (fun cdv A0 outer s H vs Q E hr h => ?_)
  obtain ⟨v0, rfl, h⟩ := h
  exact ⟨t_law_left K, (pss_cons (ps_if (pt_cmpR op_lt (pv 0) (pe_op op_pow pe_int pe_int) (nomark _)) (pss_one (ps_ret (pe_lst (pa_cons (pe_op op_mod (pv 0) pe_int) (pa_cons pe_int (pa_cons pe_int pa_nil)))))) pss_nil)
      (pss_one (ps_ret (pe_lst (pa_cons (pe_op op_sub (pv 0) (pe_op op_pow pe_int pe_int)) (pa_cons pe_int (pa_cons pe_int pa_nil))))))), pure_law_left h⟩
def pr_law_draw (K : PySem.W.Frag) (v0 v1 : V) (H : Hp) (Q : VK) (_ : XK) : Prop := ∃ (pu : Addr) (k m : Int), v0 = .ref pu ∧ v1 = .int m ∧ Le H pu k ∧ k < 1000000 ∧ 0 < m ∧ m < 2 ^ 200 ∧ ∀ r H', 0 ≤ r → r < m → Le H' pu (k + 1) → Same (hid [pu] H) (hid [pu] H') → Q (.int r) H'
def t_law_draw (K : PySem.W.Frag) : TS :=
  (tSeq (tAsg (tOp xAdd (tOp (rIxL K) (tVar 0) (tC (.int 2))) (tC (.int 1))) (gSub (tVar 0) (tC (.int 2)) rSetL))
    (tSeq (tIfS (tTest (tOp rEq (tOp (rIxL K) (tVar 0) (tC (.int 1))) (tC (.int 0)))) (tSeq (tAsg (tCall (sp_law_mix K) [] E0 (tCons (tOp (rIxL K) (tVar 0) (tC (.int 0))) (tCons (tOp (rIxL K) (tVar 0) (tC (.int 2))) tNil))) (gName 2))
    (tSeq (tIfS (tTest (tOp xGt (tVar 1) (tOp xPow (tC (.int 10)) (tC (.int 9))))) (tRet (tOp xMod (tOp xMul (tVar 2) (tOp xAdd (tOp xPow (tCall (sp_law_mix K) [] E0 (tCons (tOp (rIxL K) (tVar 0) (tC (.int 0))) (tCons (tOp xAdd (tOp (rIxL K) (tVar 0) (tC (.int 2))) (tC (.int 500))) tNil))) (tC (.int 3))) (tC (.int 1)))) (tVar 1))) tNext)
    (tRet (tOp xMod (tOp xMod (tOp xMul (tVar 2) (tOp xAdd (tVar 2) (tC (.int 2)))) (tC (.int 2147483579))) (tVar 1))))) tNext)
    (tSeq (tAsg (tOp xMod (tOp (rIxL K) (tVar 0) (tC (.int 0))) (tVar 1)) (gName 3))
    (tSeq (tAsg (tOp xDivW (tOp (rIxL K) (tVar 0) (tC (.int 0))) (tVar 1)) (gSub (tVar 0) (tC (.int 0)) rSetL))
    (tRet (tVar 3))))))
theorem pure_law_draw {v0 v1 : V} {H : Hp} {Q : VK} {E : XK} (h : pr_law_draw K v0 v1 H Q E) : t_law_draw K ⟨fun _ H' => Q .non H', Q, fun _ _ => False, fun _ _ => False⟩ [some v0, some v1, none, none] H := by
  obtain ⟨pu, k, m, rfl, rfl, hL, k1, m0, m1, q⟩ := h
  obtain ⟨⟨x, f, hp, hx⟩, k0⟩ := hL
  unfold t_law_draw
  wtm_at "s"
  refine k_ixL (sl hp) rfl ?_
  wtm_at "s"
  refine k_setL hp (j := 2) rfl ?_
  have e1 : upd H pu (.lst [.int x, .int f, .int (k + 1)]) pu = some (.lst [.int x, .int f, .int (k + 1)]) := upd_same
  have S1 : Same (hid [pu] H) (hid [pu] (upd H pu (.lst [.int x, .int f, .int (k + 1)]))) := same_hid_upd (Same.refl _) (by simp)
  rw [show [V.int x, V.int f, V.int k].set 2 (V.int (k + 1)) = [.int x, .int f, .int (k + 1)] from rfl]
  generalize upd H pu (.lst [.int x, .int f, .int (k + 1)]) = H1 at e1 S1 ⊢
  wtm_at "s"
  refine k_ixL (sl e1) rfl ?_
  wtm_at "s"
  refine k_it (fun c => ?_) (fun c => ?_)
  · obtain ⟨x0, x1⟩ := hx c
    have L1 : Le H1 pu (k + 1) := ⟨⟨x, f, e1, hx⟩, by omega⟩
    wtm_at "s"
    refine k_ixL (sl e1) rfl ?_
    wtm_at "s"
    refine k_ixL (sl e1) rfl ?_
    wtm_at "s"
    refine ⟨_, _, rfl, x, k + 1, rfl, rfl, x0, x1, by omega, by omega, fun r r0 r1 => ?_⟩
    wtm_at "s"
    refine k_it (fun c2 => ?_) (fun c2 => ?_)
    · wtm_at "s"
      refine k_ixL (sl e1) rfl ?_
      wtm_at "s"
      refine k_ixL (sl e1) rfl ?_
      wtm_at "s"
      refine ⟨_, _, rfl, x, k + 1 + 500, rfl, rfl, x0, x1, by omega, by omega, fun r2 r20 r21 => ?_⟩
      wtm_at "s"
      refine k_pow ⟨by decide, by decide, by omega⟩ ?_
      wtm_at "s"
      exact q _ _ (Int.emod_nonneg _ (by omega)) (Int.emod_lt_of_pos _ m0) L1 S1
    · wtm_at "s"
      exact q _ _ (Int.emod_nonneg _ (by omega)) (Int.emod_lt_of_pos _ m0) L1 S1
  · wtm_at "s"
    refine k_ixL (sl e1) rfl ?_
    wtm_at "s"
    refine k_ixL (sl e1) rfl ?_
    wtm_at "s"
    refine k_divW (wide_div m0 (b := 201) (by omega) (by decide) (by decide)) ?_
    wtm_at "s"
    refine k_setL e1 (j := 0) rfl ?_
    wtm_at "s"
    exact q _ _ (Int.emod_nonneg _ (by omega)) (Int.emod_lt_of_pos _ m0) ⟨⟨x / m, f, upd_same, fun z => absurd z c⟩, by omega⟩ (same_hid_upd S1 (by simp))
abbrev sp_law_draw (K : PySem.W.Frag) : Sp := fun vs H Q E => ∃ v0 v1, vs = [v0, v1] ∧ pr_law_draw K v0 v1 H Q E
theorem ok_law_draw (T : Txt K mg A) : FnOk P w K mg base CX0 2 A.a_law_draw A.d_law_draw ["_law_left_here", "_law_base"] (sp_law_draw K) := by
  refine T.F_law_draw.ok sc_law_draw (fun vs H Q E h => by obtain ⟨v0, v1, rfl, _⟩ := h; rfl) (fun cdv A0 outer s H vs Q E hr h => ?_)
  obtain ⟨v0, v1, rfl, h⟩ := h
  exact ⟨t_law_draw K, (pss_cons (ps_asg (pe_op op_add (pe_ix ix_list (pv 0) pe_int (fun _ _ => rfl)) pe_int) (pg_sub (pv 0) pe_int set_list))
      (pss_cons (ps_if (pt_cmpR op_eq (pe_ix ix_list (pv 0) pe_int (fun _ _ => rfl)) pe_int (nomark _)) (pss_cons (ps_set (i := 2) sc_law_draw.nd rfl (Or.inl rfl) (pe_call (ok_law_mix T) (hr.mono (by decide)) (by rfl) T.g_law_mix T.F_law_mix.kp T.b_law_mix .nil pass0 (pa_cons (pe_ix ix_list (pv 0) pe_int (fun _ _ => rfl)) (pa_cons (pe_ix ix_list (pv 0) pe_int (fun _ _ => rfl)) pa_nil))))
      (pss_cons (ps_if (pt_cmpR op_gt (pv 1) (pe_op op_pow pe_int pe_int) (nomark _)) (pss_one (ps_ret (pe_op op_mod (pe_op op_mul (pv 2) (pe_op op_add (pe_op op_pow (pe_call (ok_law_mix T) (hr.mono (by decide)) (by rfl) T.g_law_mix T.F_law_mix.kp T.b_law_mix .nil pass0 (pa_cons (pe_ix ix_list (pv 0) pe_int (fun _ _ => rfl)) (pa_cons (pe_op op_add (pe_ix ix_list (pv 0) pe_int (fun _ _ => rfl)) pe_int) pa_nil))) pe_int) pe_int)) (pv 1)))) pss_nil)
      (pss_one (ps_ret (pe_op op_mod (pe_op op_mod (pe_op op_mul (pv 2) (pe_op op_add (pv 2) pe_int)) pe_int) (pv 1)))))) pss_nil)
      (pss_cons (ps_set (i := 3) sc_law_draw.nd rfl (Or.inl rfl) (pe_op op_mod (pe_ix ix_list (pv 0) pe_int (fun _ _ => rfl)) (pv 1)))
      (pss_cons (ps_asg (pe_op op_fdivW (pe_ix ix_list (pv 0) pe_int (fun _ _ => rfl)) (pv 1)) (pg_sub (pv 0) pe_int set_list))
      (pss_one (ps_ret (pv 3))))))), pure_law_draw h⟩


def pr_law_whole (K : PySem.W.Frag) (v0 : V) (H : Hp) (Q : VK) (_ : XK) : Prop := ∃ d : PyData, Dp K H v0 d ∧ Q (.bl (wholeD d)) H
def t_law_whole (K : PySem.W.Frag) : TS :=
  (tRet (tAndV (tCB (rIsi K) (tCons (tVar 0) (tCons (tC (.ty "int")) tNil))) (tNotV (tCB (rIsi K) (tCons (tVar 0) (tCons (tC (.ty "bool")) tNil))))))
theorem pure_law_whole {v0 : V} {H : Hp} {Q : VK} {E : XK} (h : pr_law_whole K v0 H Q E) : t_law_whole K ⟨fun _ H' => Q .non H', Q, fun _ _ => False, fun _ _ => False⟩ [some v0] H := by
  obtain ⟨d, hd, q⟩ := h
  unfold t_law_whole
  refine k_ret (k_andV ?_)
  refine k_cb (k_cons (k_var rfl (k_cons (k_c (k_nil ?_)))))
  refine k_isiIntD hd ?_
  refine ⟨_, rfl, ?_⟩
  have c : (isD "int" d || isD "bool" d) = true ∨ (isD "int" d || isD "bool" d) = false := by cases (isD "int" d || isD "bool" d) <;> simp
  rcases c with c | c
  · rw [c, if_pos rfl]
    refine k_notV ?_
    refine k_cb (k_cons (k_var rfl (k_cons (k_c (k_nil ?_)))))
    refine k_isiBoolD hd ⟨_, rfl, ?_⟩
    have e : (!isD "bool" d) = wholeD d := by cases d <;> first | rfl | (exact absurd c (by simp [isD, tyD]))
    rw [e]; exact q
  · rw [c, if_neg (by decide)]
    have e : wholeD d = false := by cases d <;> first | rfl | (exact absurd c (by simp [isD, tyD]))
    rw [e] at q; exact q
abbrev sp_law_whole (K : PySem.W.Frag) : Sp := fun vs H Q E => ∃ v0, vs = [v0] ∧ pr_law_whole K v0 H Q E
theorem ok_law_whole (T : Txt K mg A) : FnOk P w K mg base CX0 1 A.a_law_whole A.d_law_whole ["_law_found"] (sp_law_whole K) := by
  refine T.F_law_whole.ok sc_law_whole (fun vs H Q E h => by obtain ⟨v0, rfl, _⟩ := h; rfl) (fun cdv A0 outer s H vs Q E hr h => ?_)
  obtain ⟨v0, rfl, h⟩ := h
  exact ⟨t_law_whole K, (pss_one (ps_ret (pe_and (pe_callB q_isi (by rfl) T.z_isinstance (by decide +kernel) (pa_cons (pv 0) (pa_cons (pe_bltn (v := .ty "int") (by rfl) T.z_int (by decide +kernel) rfl) pa_nil))) (pe_one (pe_not (pe_callB q_isi (by rfl) T.z_isinstance (by decide +kernel) (pa_cons (pv 0) (pa_cons (pe_bltn (v := .ty "bool") (by rfl) T.z_bool (by decide +kernel) rfl) pa_nil)))))))), pure_law_whole h⟩
def pr_law_places (K : PySem.W.Frag) (v0 : V) (H : Hp) (Q : VK) (_ : XK) : Prop := ∃ N : Net, Dp K H v0 N.d ∧ Q (.int N.places) H
def t_law_places (K : PySem.W.Frag) : TS :=
  (tSeq (tIfS (tTest (tOp rEq (tOp (rIxT K) (tVar 0) (tC (.int 0))) (tC (.str (Str.ofString "tree"))))) (tRet (tOp xAdd (tCB (rLenX K) (tCons (tOp (rIxT K) (tVar 0) (tC (.int 1))) tNil)) (tC (.int 1)))) tNext)
    (tRet (tOp (rIxT K) (tVar 0) (tC (.int 1)))))
theorem pure_law_places {v0 : V} {H : Hp} {Q : VK} {E : XK} (h : pr_law_places K v0 H Q E) : t_law_places K ⟨fun _ H' => Q .non H', Q, fun _ _ => False, fun _ _ => False⟩ [some v0] H := by
  obtain ⟨N, hd, q⟩ := h
  obtain ⟨a, y, rfl, hs, hy⟩ := dp_net hd
  unfold t_law_places
  wtm_at "s"
  refine k_eqS ?_
  cases N with
  | line n =>
    obtain rfl := dp_int hy
    rw [show Net.kind (.line n) = Str.ofString "line" from rfl, s_lt]
    wtm_at "s"
    exact q
  | ring n =>
    obtain rfl := dp_int hy
    rw [show Net.kind (.ring n) = Str.ofString "ring" from rfl, s_rt]
    wtm_at "s"
    exact q
  | tree ps =>
    obtain ⟨b, rfl, hb⟩ := dp_ints hy
    rw [show Net.kind (.tree ps) = Str.ofString "tree" from rfl, s_same]
    wtm_at "s"
    exact q
abbrev sp_law_places (K : PySem.W.Frag) : Sp := fun vs H Q E => ∃ v0, vs = [v0] ∧ pr_law_places K v0 H Q E
theorem ok_law_places (T : Txt K mg A) : FnOk P w K mg base CX0 1 A.a_law_places A.d_law_places ["_law_net_here"] (sp_law_places K) := by
  refine T.F_law_places.ok sc_law_places (fun vs H Q E h => by obtain ⟨v0, rfl, _⟩ := h; rfl) (fun cdv A0 outer s H vs Q E hr h => ?_)
  obtain ⟨v0, rfl, h⟩ := h
  exact ⟨t_law_places K, (pss_cons (ps_if (pt_cmpR op_eq (pe_ix ix_tup (pv 0) pe_int (fun _ _ => rfl)) pe_str (nomark _)) (pss_one (ps_ret (pe_op op_add (pe_callB q_len (by rfl) T.z_len (by decide +kernel) (pa_cons (pe_ix ix_tup (pv 0) pe_int (fun _ _ => rfl)) pa_nil)) pe_int))) pss_nil)
      (pss_one (ps_ret (pe_ix ix_tup (pv 0) pe_int (fun _ _ => rfl))))), pure_law_places h⟩


def pr_law_up (K : PySem.W.Frag) (v0 v1 : V) (H : Hp) (Q : VK) (_ : XK) : Prop := ∃ (ps : List Int) (x : Int), Dp K H v0 (Net.tree ps).d ∧ TreeOk ps ∧ v1 = .int x ∧ 0 ≤ x ∧ x ≤ ps.length ∧ ∀ p (us : List Int) H', H p = none → Same H H' → H' p = some (.lst (us.map V.int)) → (∀ t : Nat, (t : Int) ∈ us ↔ below ps (t + 1) x.toNat = true) → Q (.ref p) H'
def t_law_up (K : PySem.W.Frag) : TS :=
  (tSeq (tAsg (tLst tNil) (gName 2))
    (tSeq (tWhile (tTest (tOp xGt (tVar 1) (tC (.int 0))))
      (tSeq (tDrop (tBM K "list" rAppend (tVar 2) (tCons (tOp xSub (tVar 1) (tC (.int 1))) tNil)))
    (tAsg (tOp (rIxL K) (tOp (rIxT K) (tVar 0) (tC (.int 1))) (tOp xSub (tVar 1) (tC (.int 1)))) (gName 1))))
    (tRet (tVar 2))))
theorem pure_law_up {v0 v1 : V} {H : Hp} {Q : VK} {E : XK} (h : pr_law_up K v0 v1 H Q E) : t_law_up K ⟨fun _ H' => Q .non H', Q, fun _ _ => False, fun _ _ => False⟩ [some v0, some v1, none] H := by
  obtain ⟨ps, x, hd, ok, rfl, x0, x1, q⟩ := h
  obtain ⟨an, yy, rfl, hn, hyy⟩ := dp_net hd
  obtain ⟨b, rfl, hb⟩ := dp_ints hyy
  have l60 := ok.2.1
  unfold t_law_up
  wtm_at "s"
  refine kL (by simp) (fun fo H1 nfo s1 e1 => ?_)
  wtm_at "s"
  refine ⟨fun m σ' H' => ∃ (y : Int) (us : List Int), σ' = [some (.ref an), some (.int y), some (.ref fo)] ∧ Same H H' ∧ H' fo = some (.lst (us.map V.int)) ∧ (m : Int) = y ∧ (us.length : Int) + y ≤ x ∧ ∀ t : Nat, (below ps (t + 1) x.toNat = true ↔ (t : Int) ∈ us ∨ below ps (t + 1) y.toNat = true),
    ⟨x.toNat, x, [], rfl, s1, e1, by omega, by simp, fun t => by simp⟩, ?_⟩
  rintro m σ' H2 ⟨y, us, rfl, s2, e2, hm, hl, hc⟩
  wtm_at "s"
  refine k_it (fun c1 => ?_) (fun c1 => ?_)
  · have hpx := ok.2.2 (y - 1).toNat (by omega)
    refine ⟨fun σ' H' => ∃ m', m' < m ∧ ∃ (y : Int) (us : List Int), σ' = [some (.ref an), some (.int y), some (.ref fo)] ∧ Same H H' ∧ H' fo = some (.lst (us.map V.int)) ∧ (m' : Int) = y ∧ (us.length : Int) + y ≤ x ∧ ∀ t : Nat, (below ps (t + 1) x.toNat = true ↔ (t : Int) ∈ us ∨ below ps (t + 1) y.toNat = true), fun σ' H' h => h, ?_⟩
    wtm_at "s"
    refine k_tyL (sl e2) ?_
    wtm_at "s"
    refine k_append e2 (by simp; omega) ?_
    have s3 : Same H (upd H2 fo (.lst (us.map V.int ++ [.int (y - 1)]))) := same_mut s2 nfo
    have e3 : upd H2 fo (.lst (us.map V.int ++ [.int (y - 1)])) fo = some (.lst ((us ++ [y - 1]).map V.int)) := by rw [upd_same, List.map_append]; rfl
    generalize upd H2 fo (.lst (us.map V.int ++ [.int (y - 1)])) = H3 at s3 e3 ⊢
    wtm_at "s"
    refine k_ixI (s3.seq hb) (by omega) (by omega) ?_
    wtm_at "s"
    generalize hx' : ps.getD (y - 1).toNat 0 = y' at hpx ⊢
    refine ⟨y'.toNat, by omega, y', us ++ [y - 1], rfl, s3, e3, by omega, by simp; omega, fun t => ?_⟩
    rw [hc t]
    have ex : y.toNat = (y - 1).toNat + 1 := by omega
    by_cases ck : t + 1 = y.toNat
    · constructor
      · intro _; exact .inl (List.mem_append_right _ (by simp; omega))
      · intro _; refine .inr ?_; rw [← ck]; exact below_self _
    · rw [ex, below_step ok (by omega) (by omega), hx']
      constructor
      · rintro (h | h)
        · exact .inl (List.mem_append_left _ h)
        · exact .inr h
      · rintro (h | h)
        · rcases List.mem_append.mp h with h | h
          · exact .inl h
          · have : (t : Int) = y - 1 := by simpa using h
            omega
        · exact .inr h
  · have y0 : y = 0 := by omega
    subst y0
    wtm_at "s"
    refine q fo us H2 nfo s2 e2 fun t => ?_
    rw [hc t]
    constructor
    · exact .inl
    · rintro (h | h)
      · exact h
      · rw [show (0 : Int).toNat = 0 from rfl, below_lt 0 (by omega)] at h; cases h
abbrev sp_law_up (K : PySem.W.Frag) : Sp := fun vs H Q E => ∃ v0 v1, vs = [v0, v1] ∧ pr_law_up K v0 v1 H Q E
theorem ok_law_up (T : Txt K mg A) : FnOk P w K mg base CX0 1 A.a_law_up A.d_law_up ["_law_net_here", "_law_place"] (sp_law_up K) := by
  refine T.F_law_up.ok sc_law_up (fun vs H Q E h => by obtain ⟨v0, v1, rfl, _⟩ := h; rfl) (fun cdv A0 outer s H vs Q E hr h => ?_)
  obtain ⟨v0, v1, rfl, h⟩ := h
  exact ⟨t_law_up K, (pss_cons (ps_set (i := 2) sc_law_up.nd rfl (Or.inl rfl) (pe_lst pa_nil))
      (pss_cons (ps_while PassesOwn.never (pt_cmpR op_gt (pv 1) pe_int (nomark _))
      (pss_cons (ps_expr (pe_bm PySem.F.plainAttrs_list PySem.F.slot_list_append PySem.F.type_list_append mt_append (pv 2) (pa_cons (pe_op op_sub (pv 1) pe_int) pa_nil)))
      (pss_one (ps_set (i := 1) sc_law_up.nd rfl (Or.inl rfl) (pe_ix ix_list (pe_ix ix_tup (pv 0) pe_int (fun _ _ => rfl)) (pe_op op_sub (pv 1) pe_int) (fun _ _ => rfl))))))
      (pss_one (ps_ret (pv 2))))), pure_law_up h⟩


def pr_law_ties (K : PySem.W.Frag) (v0 v1 : V) (H : Hp) (Q : VK) (_ : XK) : Prop := ∃ (N : Net) (a b : Int), Dp K H v0 N.d ∧ N.ok ∧ Dp K H v1 (dPair (a, b)) ∧ isWay N a b ∧ ∀ p H', H p = none → Same H H' → H' p = some (.lst (List.map V.int (tiesF N (a, b)))) → Q (.ref p) H'
def t_law_ties (K : PySem.W.Frag) : TS :=
  (tSeq (tAsg (tVar 1) (gTup K 2 (gCons (gName 2) (gCons (gName 3) gNil))))
    (tSeq (tIfS (tTest (tOp rEq (tOp (rIxT K) (tVar 0) (tC (.int 0))) (tC (.str (Str.ofString "line"))))) (tRet (tLstRg (tRg2 (tCB rMin2 (tCons (tVar 2) (tCons (tVar 3) tNil))) (tCB rMax2 (tCons (tVar 2) (tCons (tVar 3) tNil)))))) tNext)
    (tSeq (tIfS (tTest (tOp rEq (tOp (rIxT K) (tVar 0) (tC (.int 0))) (tC (.str (Str.ofString "tree"))))) (tSeq (tAsg (tCall (sp_law_up K) [] E0 (tCons (tVar 0) (tCons (tVar 2) tNil))) (gName 4))
    (tSeq (tAsg (tCall (sp_law_up K) [] E0 (tCons (tVar 0) (tCons (tVar 3) tNil))) (gName 5))
    (tRet (tLc (iRng1 (tCons (tCB (rLenX K) (tCons (tOp (rIxT K) (tVar 0) (tC (.int 1))) tNil)) tNil)) (gName 7) (tTest (tOp rNe (tOp (rIn K false) (tVar 7) (tVar 4)) (tOp (rIn K false) (tVar 7) (tVar 5)))) (tVar 7) [7])))) tNext)
    (tSeq (tAsg (tLst tNil) (gName 6))
    (tSeq (tWhile (tTest (tOp rNe (tVar 2) (tVar 3)))
      (tSeq (tDrop (tBM K "list" rAppend (tVar 6) (tCons (tVar 2) tNil)))
    (tAsg (tOp xMod (tOp xAdd (tVar 2) (tC (.int 1))) (tOp (rIxT K) (tVar 0) (tC (.int 1)))) (gName 2))))
    (tRet (tCB (rSortedI K) (tCons (tVar 6) tNil))))))))
theorem pure_law_ties {v0 v1 : V} {H : Hp} {Q : VK} {E : XK} (hh : pr_law_ties K v0 v1 H Q E) : t_law_ties K ⟨fun _ H' => Q .non H', Q, fun _ _ => False, fun _ _ => False⟩ [some v0, some v1, none, none, none, none, none, none] H := by
  obtain ⟨N, a, b, hd, ok, d1, hw, q⟩ := hh
  obtain ⟨an, y, rfl, hn, hy⟩ := dp_net hd
  obtain ⟨c, rfl, hc⟩ := dp_pair d1
  have fin : ∀ p ns H', H p = none → Same H H' → H' p = some (.lst (List.map V.int ns)) → ns.Pairwise (· < ·) → (∀ t, t ∈ ns ↔ OnTie N a b t) → Q (.ref p) H' := fun p ns H' np s e hs hm => q p H' np s (by rw [← tiesF_of ok (w := (a, b)) hw hs hm]; exact e)
  have q0 := q
  clear q
  obtain ⟨w1, w2, w3, w4, w5⟩ := hw
  unfold t_law_ties
  wtm_at "s"
  refine k_eqS ?_
  cases N with
  | line n =>
    have w4' : a < n := w4
    have w5' : b < n := w5
    have ok' : 2 ≤ n ∧ n ≤ 60 := ok
    rw [show Net.kind (.line n) = Str.ofString "line" from rfl, s_same]
    wtm_at "s"
    have e1 : (if b < a then b else a) = min a b := by split <;> omega
    have e2 : (if b > a then b else a) = max a b := by split <;> omega
    rw [e1, e2]
    refine kR (by unfold RgOk; omega) (fun p H1 np s1 e => ?_)
    rw [rg_ints] at e
    refine fin p _ H1 np s1 e ?_ fun t => ?_
    · exact List.pairwise_map.mpr (List.pairwise_lt_range.imp fun {x y} h => by omega)
    · rw [List.mem_map]
      show _ ↔ min a b ≤ t ∧ t < max a b
      constructor
      · rintro ⟨i, hi, rfl⟩
        have := List.mem_range.mp hi
        omega
      · intro h
        exact ⟨(t - min a b).toNat, List.mem_range.mpr (by omega), by omega⟩
  | ring n =>
    obtain rfl := dp_int hy
    have n3 : 3 ≤ n := ok.1
    have n60 : n ≤ 60 := ok.2
    have w4' : a < n := w4
    have w5' : b < n := w5
    rw [show Net.kind (.ring n) = Str.ofString "ring" from rfl] at hn ⊢
    rw [s_rl]
    wtm_at "s"
    refine k_eqS ?_
    rw [s_rt]
    wtm_at "s"
    refine kL (by simp) (fun fo H1 nf s1 e1 => ?_)
    wtm_at "s"
    refine whileW (fun k σ' H' => Same H H' ∧ ∃ (x : Int) (ns : List Int), σ' = [some (.ref an), some (.ref c), some (.int x), some (.int b), none, none, some (.ref fo), none] ∧ 0 ≤ x ∧ x < n ∧ H' fo = some (.lst (List.map V.int ns)) ∧ ns.length + k ≤ 61 ∧ ns.Nodup ∧ (∀ t ∈ ns, ¬ OnTie (.ring n) x b t) ∧ (∀ t, OnTie (.ring n) a b t ↔ t ∈ ns ∨ OnTie (.ring n) x b t) ∧ k = (up n x b).toNat) (m0 := (up n a b).toNat) ⟨s1, a, [], rfl, w2, w4', e1, by have := (ring_far w2 w4' w3 w5' w1); simp; omega, List.nodup_nil, (fun t z => by cases z), fun t => by simp, rfl⟩ ?_ ?_
    · rintro k σ' H2 ⟨s2, x, ns, rfl, x0, x1, e2, lk, nd, no, al, hk⟩
      have hn2 := same_seqT s2 hn
      wtm_at "s"
      refine k_itn (fun c1 => ?_) (fun c1 => ?_)
      · obtain ⟨f1, f2, f3, f4, f5⟩ := ring_far x0 x1 w3 w5' c1
        have onx : ∀ t, 0 ≤ t → t < n → (OnTie (.ring n) x b t ↔ t = x ∨ OnTie (.ring n) ((x + 1) % n) b t) ∧ (t = x → ¬ OnTie (.ring n) ((x + 1) % n) b t) := fun t t0 t1 => by
          obtain ⟨r1, r2⟩ := ring_step x0 x1 w3 w5' c1 t0 t1
          refine ⟨?_, fun z y => r2 z y.2.2⟩
          constructor
          · intro z
            rcases r1.mp z.2.2 with z | z
            · exact .inl z
            · exact .inr ⟨t0, t1, z⟩
          · rintro (z | z)
            · exact ⟨t0, t1, r1.mpr (.inl z)⟩
            · exact ⟨t0, t1, r1.mpr (.inr z.2.2)⟩
        have onself : OnTie (.ring n) x b x := ((onx x x0 x1).1).mpr (.inl rfl)
        wtm_at "s"
        refine k_tyL (sl e2) ?_
        wtm_at "s"
        refine k_append e2 (by rw [List.length_map]; omega) ?_
        have s3 := same_mut (o := .lst (List.map V.int ns ++ [.int x])) s2 nf
        have e3 : upd H2 fo (.lst (List.map V.int ns ++ [.int x])) fo = some (.lst (List.map V.int (ns ++ [x]))) := by rw [upd_same, List.map_append]; rfl
        generalize upd H2 fo (.lst (List.map V.int ns ++ [.int x])) = H3 at s3 e3 ⊢
        clear hn2
        wtm_at "s"
        refine ⟨(up n ((x + 1) % n) b).toNat, by omega, s3, (x + 1) % n, ns ++ [x], rfl, f2, f3, e3, by simp; omega, ?_, fun t ht => ?_, fun t => ?_, rfl⟩
        · rw [List.nodup_append]
          refine ⟨nd, by simp, fun t ht u hu z => ?_⟩
          rw [List.mem_singleton.mp hu] at z
          subst z
          exact no _ ht onself
        · rcases List.mem_append.mp ht with z | z
          · intro y
            exact no t z (((onx t y.1 y.2.1).1).mpr (.inr y))
          · obtain rfl := List.mem_singleton.mp z
            exact (onx t x0 x1).2 rfl
        · rw [al t, List.mem_append, List.mem_singleton]
          constructor
          · rintro (z | z)
            · exact .inl (.inl z)
            · rcases ((onx t z.1 z.2.1).1).mp z with y | y
              · exact .inl (.inr y)
              · exact .inr y
          · rintro ((z | z) | z)
            · exact .inl z
            · exact .inr (z ▸ onself)
            · exact .inr (((onx t z.1 z.2.1).1).mpr (.inr z))
      · wtm_at "s"
        refine k_sortedN (sl e2) (fun ns' p H3 pm srt np s3 e3 => ?_)
        have nd' : ns'.Nodup := pm.nodup_iff.mpr nd
        refine fin p ns' H3 (s2.free np) (s2.trans s3) e3 ?_ fun t => ?_
        · refine List.pairwise_iff_getElem.mpr fun i j hi hj hij => ?_
          have h1 := List.pairwise_iff_getElem.mp srt i j hi hj hij
          have h2 := List.pairwise_iff_getElem.mp nd' i j hi hj hij
          omega
        · rw [pm.mem_iff, al t]
          constructor
          · exact .inl
          · rintro (z | z)
            · exact z
            · exact absurd z.2.2 (by rw [c1, up_self]; have := up_nonneg w3 w5' z.1 z.2.1; omega)
    · intro σ H Q Q' hQ z
      obtain ⟨v, h1, w, h2, h3, k, h4, h5⟩ := z
      exact ⟨v, h1, w, h2, h3, k, h4, hQ _ _ h5⟩
  | tree ps =>
    obtain ⟨d, rfl, hdl⟩ := dp_ints hy
    have w4' : a < (ps.length : Int) + 1 := w4
    have w5' : b < (ps.length : Int) + 1 := w5
    have l60 := ok.2.1
    rw [show Net.kind (.tree ps) = Str.ofString "tree" from rfl] at hn ⊢
    rw [s_tl]
    wtm_at "s"
    refine k_eqS ?_
    rw [s_same]
    wtm_at "s"
    refine ⟨_, _, rfl, ps, a, hd, ok, rfl, w2, by omega, fun p1 us1 H1 np1 s1 e1 m1 => ?_⟩
    wtm_at "s"
    refine ⟨_, _, rfl, ps, b, dp_same s1 hd, ok, rfl, w3, by omega, fun p2 us2 H2 np2 s2 e2 m2 => ?_⟩
    have s02 := s1.trans s2
    have hn2 := same_seqT s02 hn
    have hd2 := s02.seq hdl
    have e12 := s2 _ _ e1
    wtm_at "s"
    rw [Int.toNat_natCast]
    refine lc_pureR (by omega) (fun i => if (decide (OnTie (.tree ps) a b (i : Nat))) = true then some (.int (0 + (i : Nat))) else none) ?_ (fun D H3 nD s3 eD => ?_)
    · intro i H' hi sm R R0 g1 g2
      have onI : OnTie (.tree ps) a b (i : Nat) ↔ decide ((0 + (i : Nat) : Int) ∈ us1) ≠ decide ((0 + (i : Nat) : Int) ∈ us2) := by
        show (0 ≤ ((i : Nat) : Int) ∧ ((i : Nat) : Int) < ps.length ∧ below ps (((i : Nat) : Int).toNat + 1) a.toNat ≠ below ps (((i : Nat) : Int).toNat + 1) b.toNat) ↔ _
        rw [Int.toNat_natCast, Int.zero_add]
        have d1 : decide (((i : Nat) : Int) ∈ us1) = below ps (i + 1) a.toNat := by rw [Bool.eq_iff_iff, decide_eq_true_eq]; exact m1 i
        have d2 : decide (((i : Nat) : Int) ∈ us2) = below ps (i + 1) b.toNat := by rw [Bool.eq_iff_iff, decide_eq_true_eq]; exact m2 i
        rw [d1, d2]
        exact ⟨fun z => z.2.2, fun z => ⟨by omega, by omega, z⟩⟩
      have sq1 := sl_at (K := K) e12 sm
      have sq2 := sl_at (K := K) e2 sm
      wtm_at "s"
      refine k_itn (fun c1 => ?_) (fun c1 => ?_)
      · wtm_at "s"
        exact g1 _ (if_pos (decide_eq_true (onI.mpr c1)))
      · exact g2 (if_neg (by rw [decide_eq_true_eq]; exact fun z => (onI.mp z) c1))
    · rw [keepI_fm] at eD
      exact q0 D H3 (s02.free nD) (s02.trans s3) eD
abbrev sp_law_ties (K : PySem.W.Frag) : Sp := fun vs H Q E => ∃ v0 v1, vs = [v0, v1] ∧ pr_law_ties K v0 v1 H Q E
theorem ok_law_ties (T : Txt K mg A) : FnOk P w K mg base CX0 2 A.a_law_ties A.d_law_ties ["_law_net_here", "_law_way"] (sp_law_ties K) := by
  refine T.F_law_ties.ok sc_law_ties (fun vs H Q E h => by obtain ⟨v0, v1, rfl, _⟩ := h; rfl) (fun cdv A0 outer s H vs Q E hr h => ?_)
  obtain ⟨v0, v1, rfl, h⟩ := h
  exact ⟨t_law_ties K, (pss_cons (ps_asg (pv 1) (pg_tup (by rfl) (pgs_cons (pg_name (i := 2) sc_law_ties.nd rfl (Or.inl rfl)) (pgs_cons (pg_name (i := 3) sc_law_ties.nd rfl (Or.inl rfl)) pgs_nil))))
      (pss_cons (ps_if (pt_cmpR op_eq (pe_ix ix_tup (pv 0) pe_int (fun _ _ => rfl)) pe_str (nomark _)) (pss_one (ps_ret (pe_listRg (by rfl) (by rfl) T.z_list (prg_2 (by rfl) T.z_range (pe_callB (q_min2 (by rfl)) (by rfl) T.z_min (by decide +kernel) (pa_cons (pv 2) (pa_cons (pv 3) pa_nil))) (pe_callB (q_max2 (by rfl)) (by rfl) T.z_max (by decide +kernel) (pa_cons (pv 2) (pa_cons (pv 3) pa_nil))))))) pss_nil)
      (pss_cons (ps_if (pt_cmpR op_eq (pe_ix ix_tup (pv 0) pe_int (fun _ _ => rfl)) pe_str (nomark _)) (pss_cons (ps_set (i := 4) sc_law_ties.nd rfl (Or.inr rfl) (pe_call (ok_law_up T) (hr.mono (by decide)) (by rfl) T.g_law_up T.F_law_up.kp T.b_law_up .nil pass0 (pa_cons (pv 0) (pa_cons (pv 2) pa_nil))))
      (pss_cons (ps_set (i := 5) sc_law_ties.nd rfl (Or.inr rfl) (pe_call (ok_law_up T) (hr.mono (by decide)) (by rfl) T.g_law_up T.F_law_up.kp T.b_law_up .nil pass0 (pa_cons (pv 0) (pa_cons (pv 3) pa_nil))))
      (pss_one (ps_ret (pe_lc (own := [("_law_tie", 7)]) (by rfl) sc_law_ties.nd (pi_range1 (by rfl) T.z_range (pa_cons (pe_callB q_len (by rfl) T.z_len (by decide +kernel) (pa_cons (pe_ix ix_tup (pv 0) pe_int (fun _ _ => rfl)) pa_nil)) pa_nil)) (blkOk_by (own := [("_law_tie", 7)]) (N := ["_law_net_here", "_law_way", "_law_a", "_law_b", "_law_one", "_law_other", "_law_found", "_law_tie"]) (sc := defScope s_law_ties) (by decide +kernel)) (fun _ _ _ _ _ => (pg_name (i := 7) sc_law_ties.nd rfl (Or.inl rfl))) (fun _ _ _ _ _ => (pts_one (pt_cmpR op_ne (pe_cmpR op_in_seq (pv 7) (pv 4) (by rfl)) (pe_cmpR op_in_seq (pv 7) (pv 5) (by rfl)) (nomark _)))) (fun _ _ _ _ _ => (pv 7))))))) pss_nil)
      (pss_cons (ps_set (i := 6) sc_law_ties.nd rfl (Or.inl rfl) (pe_lst pa_nil))
      (pss_cons (ps_while PassesOwn.never (pt_cmpR op_ne (pv 2) (pv 3) (nomark _))
      (pss_cons (ps_expr (pe_bm PySem.F.plainAttrs_list PySem.F.slot_list_append PySem.F.type_list_append mt_append (pv 6) (pa_cons (pv 2) pa_nil)))
      (pss_one (ps_set (i := 2) sc_law_ties.nd rfl (Or.inl rfl) (pe_op op_mod (pe_op op_add (pv 2) pe_int) (pe_ix ix_tup (pv 0) pe_int (fun _ _ => rfl)))))))
      (pss_one (ps_ret (pe_callB cr_sortedI (by rfl) T.z_sorted (by decide +kernel) (pa_cons (pv 6) pa_nil))))))))), pure_law_ties h⟩
def pr_law_meet (K : PySem.W.Frag) (v0 v1 : V) (H : Hp) (Q : VK) (_ : XK) : Prop := ∃ (a b : Addr) (xs ys : List Int), v0 = .ref a ∧ v1 = .ref b ∧ SqL K H a (xs.map V.int) ∧ SqL K H b (ys.map V.int) ∧ xs.length ≤ 1000 ∧ ∀ H', Same H H' → Q (.bl (commonB xs ys)) H'
def t_law_meet (K : PySem.W.Frag) : TS :=
  (tRet (tOp (rNeD K) (tLc (iList K (tVar 0)) (gName 2) (tTest (tOp (rIn K false) (tVar 2) (tVar 1))) (tVar 2) [2]) (tLst tNil)))
theorem pure_law_meet {v0 v1 : V} {H : Hp} {Q : VK} {E : XK} (h : pr_law_meet K v0 v1 H Q E) : t_law_meet K ⟨fun _ H' => Q .non H', Q, fun _ _ => False, fun _ _ => False⟩ [some v0, some v1, none] H := by
  obtain ⟨a, b, xs, ys, rfl, rfl, ha, hb, hz, q⟩ := h
  unfold t_law_meet
  wtm_at "s"
  refine lc_pure ha xs (by simp) (by omega) (fun t => if t ∈ ys then some (V.int t) else none) ?_ (fun D H1 nD s1 eD => ?_)
  · intro k z p H' hz hp sm R R0 h1 h2
    rw [List.getElem?_map, hp] at hz
    cases hz
    have hb' := sm.seq hb
    wtm_at "s"
    refine k_it (fun w => ?_) (fun w => ?_)
    · wtm_at "s"
      exact h1 _ (by rw [if_pos w])
    · exact h2 (by rw [if_neg w])
  · have ex : ∀ l : List Int, l.filterMap (fun t => if t ∈ ys then some (V.int t) else none) = (l.filter fun t => decide (t ∈ ys)).map V.int := fun l => by
      induction l with
      | nil => rfl
      | cons x r ih =>
        rw [List.filterMap_cons, List.filter_cons]
        by_cases c : x ∈ ys
        · rw [if_pos c, decide_eq_true c, if_pos rfl, List.map_cons, ih]
        · rw [if_neg c, decide_eq_false c, if_neg (by decide), ih]
    rw [ex] at eD
    wtm_at "s"
    refine kL (by simp) (fun l2 H2 nl2 s2 e2 => ?_)
    refine k_neD (n := 1) (dp_of_ints (sl (s2 _ _ eD))) (dp_of_ints (ns := []) (sl e2)) (sh_ints _) (sh_ints _) (by decide) ?_
    have e : (!PyData.eqv (dInts (xs.filter fun t => decide (t ∈ ys))) (dInts [])) = commonB xs ys := by
      rw [Bool.eq_iff_iff, common_iff]
      cases hf : xs.filter fun t => decide (t ∈ ys) with
      | nil =>
        rw [show PyData.eqv (dInts []) (dInts []) = true from rfl]
        refine ⟨fun z => (nomatch z), ?_⟩
        rintro ⟨t, h1, h2⟩
        have : t ∈ xs.filter fun t => decide (t ∈ ys) := List.mem_filter.mpr ⟨h1, decide_eq_true h2⟩
        rw [hf] at this; cases this
      | cons y r =>
        rw [show PyData.eqv (dInts (y :: r)) (dInts []) = false from rfl]
        refine ⟨fun _ => ?_, fun _ => rfl⟩
        have : y ∈ xs.filter fun t => decide (t ∈ ys) := by rw [hf]; exact List.mem_cons_self
        obtain ⟨h1, h2⟩ := List.mem_filter.mp this
        exact ⟨y, h1, of_decide_eq_true h2⟩
    rw [e]
    exact q H2 (s1.trans s2)
abbrev sp_law_meet (K : PySem.W.Frag) : Sp := fun vs H Q E => ∃ v0 v1, vs = [v0, v1] ∧ pr_law_meet K v0 v1 H Q E
theorem ok_law_meet (T : Txt K mg A) : FnOk P w K mg base CX0 1 A.a_law_meet A.d_law_meet ["_law_one", "_law_other"] (sp_law_meet K) := by
  refine T.F_law_meet.ok sc_law_meet (fun vs H Q E h => by obtain ⟨v0, v1, rfl, _⟩ := h; rfl) (fun cdv A0 outer s H vs Q E hr h => ?_)
  obtain ⟨v0, v1, rfl, h⟩ := h
  exact ⟨t_law_meet K, (pss_one (ps_ret (pe_cmpR (op_neD hr.units) (pe_lc (own := [("_law_tie", 2)]) (by rfl) sc_law_meet.nd (pi_list (pv 0)) (blkOk_by (own := [("_law_tie", 2)]) (N := ["_law_one", "_law_other", "_law_tie"]) (sc := defScope s_law_meet) (by decide +kernel)) (fun _ _ _ _ _ => (pg_name (i := 2) sc_law_meet.nd rfl (Or.inl rfl))) (fun _ _ _ _ _ => (pts_one (pt_cmpR op_in_seq (pv 2) (pv 1) (by rfl)))) (fun _ _ _ _ _ => (pv 2))) (pe_lst pa_nil) (nomark _)))), pure_law_meet h⟩


def pr_law_meets (K : PySem.W.Frag) (v0 v1 : V) (H : Hp) (Q : VK) (_ : XK) : Prop := ∃ (N : Net) (ws : List (Int × Int)) (S : List Addr), Dp K H v0 N.d ∧ N.ok ∧ Dp K H v1 (dPairs ws) ∧ ws.length ≤ 100 ∧ (∀ w ∈ ws, isWay N w.1 w.2) ∧ (∀ x ∈ S, H x ≠ none) ∧
  ∀ p H', H p = none → Same H H' → Dp K (hid S H') (.ref p) (.list ((meetF N ws).map dInts)) → Q (.ref p) H'
def t_law_meets (K : PySem.W.Frag) : TS :=
  (tSeq (tAsg (tLc (iList K (tVar 1)) (gName 5) tYes (tCall (sp_law_ties K) [] E0 (tCons (tVar 0) (tCons (tVar 5) tNil))) [5]) (gName 2))
    (tSeq (tAsg (tLst tNil) (gName 3))
    (tSeq (tFor (iRng1 (tCons (tCB (rLenX K) (tCons (tVar 1) tNil)) tNil)) (gName 4)
      (tDrop (tBM K "list" rAppend (tVar 3) (tCons (tLc (iRng1 (tCons (tCB (rLenX K) (tCons (tVar 1) tNil)) tNil)) (gName 6) (tAnd (tTest (tOp rNe (tVar 6) (tVar 4))) (tB (tCall (sp_law_meet K) [] E0 (tCons (tOp (rIxL K) (tVar 2) (tVar 4)) (tCons (tOp (rIxL K) (tVar 2) (tVar 6)) tNil))))) (tVar 6) [6]) tNil))))
    (tRet (tVar 3)))))
theorem pure_law_meets {v0 v1 : V} {H : Hp} {Q : VK} {E : XK} (hh : pr_law_meets K v0 v1 H Q E) : t_law_meets K ⟨fun _ H' => Q .non H', Q, fun _ _ => False, fun _ _ => False⟩ [some v0, some v1, none, none, none, none, none] H := by
  obtain ⟨N, ws, S, d0, ok, d1, hz, hok, hS, q⟩ := hh
  obtain ⟨b, ys, rfl, hb, dys⟩ := dp_list d1
  have ly : ys.length = ws.length := by rw [dpa_len dys, List.length_map]
  have tl60 := (ties_le ok).1
  have fS : ∀ {H1 : Hp} {p : Addr}, Same H H1 → H1 p = none → p ∉ S := fun s np z => hS _ z (s.free np)
  unfold t_law_meets
  wtm_at "s"
  refine lc_dp [] (fun x hx => by cases hx) hb ws ly (by omega) (fun w => dInts (tiesF N w)) ?_ (fun tl zs H1 ntl s1 e1 dz => ?_) (fun x σ' H q q' h hh => h _ _ hh)
  · intro i x w H' hx hw sm R g
    obtain ⟨w', c, hw', rfl, hc⟩ := dpairs_get dys hx
    rw [hw] at hw'
    cases hw'
    have wok := hok w (List.mem_of_getElem? hw)
    wtm_at "s"
    refine ⟨_, _, rfl, N, w.1, w.2, dp_same sm d0, ok, dp_of_pair (same_seqT sm hc), wok, fun p H2 np s2 e2 => ?_⟩
    refine g _ H2 s2 (fun S' hS' => ?_)
    exact dp_of_ints (sl (by rw [hid_ne (fun z => hS' p z np)]; exact e2))
  replace dz := dpa_same (hid_same _ _) dz
  have lz : zs.length = ws.length := by rw [dpa_len dz, List.length_map]
  have row : ∀ (k : Nat), k < ws.length → ∃ c, zs[k]? = some (.ref c) ∧ SqL K H1 c ((tiesF N (ws.getD k (0, 0))).map V.int) := fun k hk => by
    obtain ⟨v, hv, dv⟩ := dpa_get2 dz (i := k) (d := dInts (tiesF N (ws.getD k (0, 0)))) (by rw [List.getElem?_map, List.getElem?_eq_getElem hk, List.getD_eq_getElem?_getD, List.getElem?_eq_getElem hk]; rfl)
    obtain ⟨c, rfl, hc⟩ := dp_ints dv
    exact ⟨c, hv, hc⟩
  wtm_at "s"
  refine kL (by simp) (fun fo H2 nfo s2 e2 => ?_)
  have nf0 : H fo = none := s1.free nfo
  wtm_at "s"
  rw [ly, Int.toNat_natCast]
  refine forR (fun i σ' H' => Same H1 H' ∧ ∃ rs k4 k5 k6, σ' = [some v0, some (.ref b), some (.ref tl), some (.ref fo), k4, k5, k6] ∧ H' fo = some (.lst rs) ∧ rs.length = i ∧ DpAll K (hid (fo :: S) H') rs (((List.range i).map (meetRow N ws)).map dInts)) ⟨s2, [], _, _, _, rfl, e2, rfl, .nil⟩ ?_ ?_
  · rintro i σ' H3 hi ⟨s3, rs, k4, k5, k6, rfl, e3, lr, dr⟩
    have s03 := s1.trans s3
    have hb3 := s03.seq hb
    wtm_at "s"
    refine k_tyL (sl e3) ?_
    wtm_at "s"
    rw [ly, Int.toNat_natCast]
    refine lc_growR (by omega) (fun k => if (decide (k ≠ i) && meetB N (ws.getD i (0, 0)) (ws.getD k (0, 0))) = true then some (.int (0 + (k : Nat))) else none) ?_ (fun D H4 nD s4 eD => ?_)
    · intro k H' hk sm R R0 g1 g2
      obtain ⟨c1, hc1, hs1⟩ := row i hi
      obtain ⟨c2, hc2, hs2⟩ := row k hk
      have s1' := s3.trans sm
      have etl := s1' _ _ e1
      wtm_at "s"
      refine k_itn (fun c => ?_) (fun c => ?_)
      · have ck : k ≠ i := fun z => c (by rw [z])
        wtm_at "s"
        refine k_ixL (sl etl) (atI_nat' hc1) ?_
        wtm_at "s"
        refine k_ixL (sl etl) (atI_nat' hc2) ?_
        wtm_at "s"
        refine ⟨_, _, rfl, c1, c2, _, _, rfl, rfl, s1'.seq hs1, s1'.seq hs2, by have := tiesF_len N (ws.getD i (0, 0)); omega, fun H5 s5 => ?_⟩
        have em : commonB (tiesF N (ws.getD i (0, 0))) (tiesF N (ws.getD k (0, 0))) = meetB N (ws.getD i (0, 0)) (ws.getD k (0, 0)) := rfl
        rw [em]
        cases hm : meetB N (ws.getD i (0, 0)) (ws.getD k (0, 0)) with
        | true =>
          wtm_at "s"
          exact g1 _ H5 (by rw [hm, decide_eq_true ck]; rfl) s5
        | false =>
          wtm_at "s"
          exact g2 H5 (by rw [hm, decide_eq_true ck]; rfl) s5
      · have ck : k = i := by omega
        wtm_at "s"
        exact g2 H' (by rw [decide_eq_false (fun z => z ck)]; rfl) (Same.refl _)
    · rw [keepI_fm] at eD
      have eD' : H4 D = some (.lst ((meetRow N ws i).map V.int)) := eD
      have Dfo : D ≠ fo := fun z => by rw [z, e3] at nD; cases nD
      have DS : D ∉ fo :: S := fun z => by
        rcases List.mem_cons.mp z with z | z
        · exact Dfo z
        · exact fS s03 nD z
      wtm_at "s"
      refine k_append (s4 _ _ e3) (by omega) ?_
      refine ⟨same_mut (s3.trans s4) nfo, rs ++ [.ref D], _, _, _, rfl, upd_same, by simp [lr], ?_⟩
      rw [hid_upd (by simp), List.range_succ, List.map_append, List.map_append]
      exact dpa_app (dpa_same (hid_mono s4) dr) (.cons (dp_of_ints (sl (by rw [hid_ne DS]; exact eD'))) .nil)
  · rintro σ' H3 ⟨s3, rs, k4, k5, k6, rfl, e3, lr, dr⟩
    wtm_at "s"
    refine q fo H3 nf0 (s1.trans s3) (.lst (sl ?_) (dpa_same (hid_sub fun x hx => List.mem_cons_of_mem _ hx) dr))
    rw [hid_ne (fS (Same.refl _) nf0)]; exact e3
abbrev sp_law_meets (K : PySem.W.Frag) : Sp := fun vs H Q E => ∃ v0 v1, vs = [v0, v1] ∧ pr_law_meets K v0 v1 H Q E
theorem ok_law_meets (T : Txt K mg A) : FnOk P w K mg base CX0 3 A.a_law_meets A.d_law_meets ["_law_net_here", "_law_ways_here"] (sp_law_meets K) := by
  refine T.F_law_meets.ok sc_law_meets (fun vs H Q E h => by obtain ⟨v0, v1, rfl, _⟩ := h; rfl) (fun cdv A0 outer s H vs Q E hr h => ?_)
  obtain ⟨v0, v1, rfl, h⟩ := h
  exact ⟨t_law_meets K, (pss_cons (ps_set (i := 2) sc_law_meets.nd rfl (Or.inr rfl) (pe_lc (own := [("_law_way", 5)]) (by rfl) sc_law_meets.nd (pi_list (pv 1)) (blkOk_by (own := [("_law_way", 5)]) (N := ["_law_net_here", "_law_ways_here", "_law_ties_here", "_law_found", "_law_one", "_law_way", "_law_k"]) (sc := defScope s_law_meets) (by decide +kernel)) (fun _ _ _ _ _ => (pg_name (i := 5) sc_law_meets.nd rfl (Or.inl rfl))) (fun _ _ _ _ _ => pts_nil) (fun _ _ _ _ _ => (pe_call (ok_law_ties T) (hr.mono (by decide)) (by rfl) T.g_law_ties T.F_law_ties.kp T.b_law_ties .nil pass0 (pa_cons (pv 0) (pa_cons (pv 5) pa_nil))))))
      (pss_cons (ps_set (i := 3) sc_law_meets.nd rfl (Or.inl rfl) (pe_lst pa_nil))
      (pss_cons (ps_for PassesOwn.never rfl (pi_range1 (by rfl) T.z_range (pa_cons (pe_callB q_len (by rfl) T.z_len (by decide +kernel) (pa_cons (pv 1) pa_nil)) pa_nil)) (pg_name (i := 4) sc_law_meets.nd rfl (Or.inr rfl))
      (pss_one (ps_expr (pe_bm PySem.F.plainAttrs_list PySem.F.slot_list_append PySem.F.type_list_append mt_append (pv 3) (pa_cons (pe_lc (own := [("_law_k", 6)]) (by rfl) sc_law_meets.nd (pi_range1 (by rfl) T.z_range (pa_cons (pe_callB q_len (by rfl) T.z_len (by decide +kernel) (pa_cons (pv 1) pa_nil)) pa_nil)) (blkOk_by (own := [("_law_k", 6)]) (N := ["_law_net_here", "_law_ways_here", "_law_ties_here", "_law_found", "_law_one", "_law_way", "_law_k"]) (sc := defScope s_law_meets) (by decide +kernel)) (fun _ _ _ _ _ => (pg_name (i := 6) sc_law_meets.nd rfl (Or.inl rfl))) (fun _ _ _ _ _ => (pts_one (PW.pt (pw_and (pt_cmpR op_ne (pv 6) (pv 4) (nomark _)) (pw_and1 (pt_val (pe_call (ok_law_meet T) (hr.mono (by decide)) (by rfl) T.g_law_meet T.F_law_meet.kp T.b_law_meet .nil pass0 (pa_cons (pe_ix ix_list (pv 2) (pv 4) (fun _ _ => rfl)) (pa_cons (pe_ix ix_list (pv 2) (pv 6) (fun _ _ => rfl)) pa_nil))))))))) (fun _ _ _ _ _ => (pv 6))) pa_nil)))))
      (pss_one (ps_ret (pv 3)))))), pure_law_meets h⟩


theorem meetW_iff {N : Net} (ok : N.ok) {ws : List (Int × Int)} (hok : ∀ w ∈ ws, isWay N w.1 w.2) {i j : Nat} (hi : i < ws.length) (hj : j < ws.length) : meetW N ws i j ↔ meetB N (ws.getD i (0, 0)) (ws.getD j (0, 0)) = true := by
  have e1 : ws[i]? = some ws[i] := List.getElem?_eq_getElem hi
  have e2 : ws[j]? = some ws[j] := List.getElem?_eq_getElem hj
  rw [getD_of e1, getD_of e2]
  unfold meetB
  rw [common_iff]
  have w1 := hok _ (List.getElem_mem hi)
  have w2 := hok _ (List.getElem_mem hj)
  constructor
  · rintro ⟨w, v, t, f1, f2, h1, h2⟩
    rw [e1] at f1
    rw [e2] at f2
    cases f1; cases f2
    exact ⟨t, (tiesF_mem ok w1 t).mpr h1, (tiesF_mem ok w2 t).mpr h2⟩
  · rintro ⟨t, h1, h2⟩
    exact ⟨_, _, t, e1, e2, (tiesF_mem ok w1 t).mp h1, (tiesF_mem ok w2 t).mp h2⟩
/-- a way that has the hue of one that it meets -/
def badK (M : List (List Int)) (hs : List Int) (k : Nat) : Bool := decide (hs.getD k 0 ∈ (M.getD k []).map fun o => hs.getD o.toNat 0)
theorem meetB_comm (N : Net) (w v : Int × Int) : meetB N w v = meetB N v w := common_comm _ _
theorem bad_iff {N : Net} (ok : N.ok) {ws : List (Int × Int)} (hok : ∀ w ∈ ws, isWay N w.1 w.2) {hs : List Int} (hl : hs.length = ws.length) : (∀ i j, ¬ BadM (meetW N ws) ws.length hs i j) ↔ (∀ x ∈ hs, 0 ≤ x) ∧ ∀ k, k < hs.length → badK (meetF N ws) hs k = false := by
  constructor
  · intro h
    constructor
    · intro x hx
      obtain ⟨i, hi, rfl⟩ := List.mem_iff_getElem.mp hx
      refine Classical.byContradiction fun c => h i i ⟨Nat.le_refl _, by omega, ?_⟩
      rw [if_pos rfl, List.getD_eq_getElem?_getD, List.getElem?_eq_getElem hi]
      show hs[i] < 0
      omega
    · intro k hk
      refine decide_eq_false fun z => ?_
      obtain ⟨o, ho, e⟩ := List.mem_map.mp z
      rw [meetF_get (by omega)] at ho
      have h0 : 0 ≤ o := (keepI_mem.mp ho).1
      obtain ⟨j, rfl⟩ : ∃ j : Nat, o = j := ⟨o.toNat, by omega⟩
      obtain ⟨h1, h2, h3⟩ := meetRow_mem.mp ho
      rw [Int.toNat_natCast] at e
      by_cases c : j < k
      · exact h j k ⟨by omega, by omega, by rw [if_neg (by omega)]; exact ⟨e, (meetW_iff ok hok h1 (by omega)).mpr (by rw [meetB_comm]; exact h3)⟩⟩
      · exact h k j ⟨by omega, by omega, by rw [if_neg (by omega)]; exact ⟨e.symm, (meetW_iff ok hok (by omega) h1).mpr h3⟩⟩
  · rintro ⟨h1, h2⟩ i j ⟨hij, hj, z⟩
    by_cases c : i = j
    · rw [if_pos c] at z
      have := h1 (hs.getD i 0) (by rw [List.getD_eq_getElem?_getD, List.getElem?_eq_getElem (by omega)]; exact List.getElem_mem _)
      omega
    · rw [if_neg c] at z
      have := of_decide_eq_false (h2 i (by omega))
      refine this (List.mem_map.mpr ⟨(j : Int), ?_, by rw [Int.toNat_natCast]; exact z.1.symm⟩)
      rw [meetF_get (by omega)]
      exact meetRow_mem.mpr ⟨hj, fun e => c e.symm, (meetW_iff ok hok (by omega) hj).mp z.2⟩
def pr_law_hues_are_so (K : PySem.W.Frag) (v0 v1 v2 : V) (H : Hp) (Q : VK) (_ : XK) : Prop := ∃ (N : Net) (ws : List (Int × Int)) (dh dhs : PyData), Dp K H v0 (.list ((meetF N ws).map dInts)) ∧ N.ok ∧ ws.length ≤ 100 ∧ (∀ w ∈ ws, isWay N w.1 w.2) ∧ Dp K H v1 dh ∧ Sh 60 dh ∧ Dp K H v2 dhs ∧
  ∀ b H', Same H H' → (b = true ↔ AreH N ws dh dhs) → Q (.bl b) H'
def t_law_hues_are_so (K : PySem.W.Frag) : TS :=
  (tSeq (tIfS (tOr (tNot (tB (tCall (sp_law_whole K) [] E0 (tCons (tVar 1) tNil)))) (tOr (tNot (tB (tCB (rIsi K) (tCons (tVar 2) (tCons (tC (.ty "list")) tNil))))) (tTest (tOp rNe (tCB (rLenX K) (tCons (tVar 2) tNil)) (tCB (rLenX K) (tCons (tVar 0) tNil)))))) (tRet (tC (.bl false))) tNext)
    (tSeq (tFor (iList K (tVar 2)) (gName 3)
      (tIfS (tOr (tNot (tB (tCall (sp_law_whole K) [] E0 (tCons (tVar 3) tNil)))) (tTest (tOp xLt (tVar 3) (tC (.int 0))))) (tRet (tC (.bl false))) tNext))
    (tSeq (tAsg (tLc (iRng1 (tCons (tCB (rLenX K) (tCons (tVar 2) tNil)) tNil)) (gName 5) (tTest (tOp (rIn K false) (tOp (rIxL K) (tVar 2) (tVar 5)) (tLc (iList K (tOp (rIxL K) (tVar 0) (tVar 5))) (gName 6) tYes (tOp (rIxL K) (tVar 2) (tVar 6)) [6]))) (tVar 5) [5]) (gName 4))
    (tRet (tAndV (tOp (rEqD K) (tVar 4) (tLst tNil)) (tOp (rEqD K) (tLenU K (tVar 2)) (tVar 1)))))))
theorem pure_law_hues_are_so {v0 v1 v2 : V} {H : Hp} {Q : VK} {E : XK} (hh : pr_law_hues_are_so K v0 v1 v2 H Q E) : t_law_hues_are_so K ⟨fun _ H' => Q .non H', Q, fun _ _ => False, fun _ _ => False⟩ [some v0, some v1, some v2, none, none, none, none] H := by
  obtain ⟨N, ws, dh, dhs, d0, ok, hz, hok, d1, shh, d2, q⟩ := hh
  have no : ∀ H', Same H H' → ¬ AreH N ws dh dhs → Q (.bl false) H' := fun H' s n => q false H' s ⟨(fun z => by cases z), fun z => absurd z n⟩
  obtain ⟨b, ms, rfl, hb, dms⟩ := dp_list d0
  have lms : ms.length = ws.length := by rw [dpa_len dms, List.length_map, meetF_len]
  unfold t_law_hues_are_so
  wtm_at "s"
  refine ⟨_, rfl, dh, d1, ?_⟩
  rcases (bcases (wholeD dh)).symm with c1 | c1
  · rw [c1]
    wtm_at "s"
    exact no H (Same.refl _) fun z => by rw [z.1] at c1; cases c1
  rw [c1]
  wtm_at "s"
  refine k_isiListD d2 ?_
  rcases (bcases (isD "list" dhs)).symm with c2 | c2
  · rw [c2]
    wtm_at "s"
    exact no H (Same.refl _) fun ⟨_, hs, e, _⟩ => by rw [e] at c2; cases c2
  obtain ⟨ds, rfl⟩ := isD_list c2
  rw [c2]
  obtain ⟨l, zs, rfl, hl, dzs⟩ := dp_list d2
  have lzs : zs.length = ds.length := dpa_len dzs
  wtm_at "s"
  refine k_itn (fun c3 => ?_) (fun c3 => ?_)
  · wtm_at "s"
    refine no H (Same.refl _) fun ⟨_, hs, e, e2, _⟩ => ?_
    cases e
    rw [List.length_map] at lzs
    omega
  wtm_at "s"
  refine forL hl (fun i σ' H' => H' = H ∧ (∃ k3, σ' = [some (.ref b), some v1, some (.ref l), k3, none, none, none]) ∧ ∀ j d, j < i → ds[j]? = some d → wholeD d = true ∧ 0 ≤ intD d) ⟨rfl, ⟨_, rfl⟩, fun j d hj => by omega⟩ (fun i σ' H' _ z => by rw [z.1]; exact hl) ?_ ?_
  · rintro i x σ' H1 hx ⟨rfl, ⟨k4, rfl⟩, ih⟩
    obtain ⟨d, hd, dd⟩ := dpa_get dzs hx
    wtm_at "s"
    refine ⟨_, rfl, d, dd, ?_⟩
    rcases (bcases (wholeD d)).symm with c4 | c4
    · rw [c4]
      wtm_at "s"
      refine no H1 (Same.refl _) fun ⟨_, hs, e, _⟩ => ?_
      cases e
      rw [List.getElem?_map] at hd
      obtain ⟨u, _, rfl⟩ := Option.map_eq_some_iff.mp hd
      cases c4
    · obtain rfl := dp_whole dd c4
      rw [c4]
      wtm_at "s"
      refine k_it (fun c5 => ?_) (fun c5 => ?_)
      · wtm_at "s"
        refine no H1 (Same.refl _) fun ⟨_, hs, e, el, nb, _⟩ => ?_
        cases e
        rw [List.getElem?_map] at hd
        obtain ⟨u, hu, rfl⟩ := Option.map_eq_some_iff.mp hd
        have := ((bad_iff ok hok el).mp nb).1 u (List.mem_of_getElem? hu)
        have c5' : u < 0 := c5
        omega
      · wtm_at "s"
        refine ⟨rfl, ⟨_, rfl⟩, fun j d' hj hd' => ?_⟩
        by_cases z : j = i
        · rw [z, hd] at hd'; cases hd'; exact ⟨c4, by omega⟩
        · exact ih j d' (by omega) hd'
  · rintro σ' H1 ⟨rfl, ⟨k4, rfl⟩, ih⟩
    have ih' : ∀ d ∈ ds, wholeD d = true ∧ 0 ≤ intD d := fun d hd => by
      obtain ⟨j, hj, e⟩ := List.mem_iff_getElem.mp hd
      exact ih j d (by omega) (by rw [List.getElem?_eq_getElem hj, e])
    have e := whole_all (ds := ds) fun d hd => (ih' d hd).1
    have pos : ∀ x ∈ ds.map intD, 0 ≤ x := fun x hx => by
      obtain ⟨d, hd, rfl⟩ := List.mem_map.mp hx
      exact (ih' d hd).2
    clear ih ih'
    generalize ds.map intD = hs at e pos
    subst e
    have ehs : zs = hs.map V.int := dpa_ints dzs
    subst ehs
    have lhs : hs.length = ws.length := by rw [List.length_map] at c3; omega
    wtm_at "s"
    rw [Int.toNat_natCast]
    refine lc_growR (by omega) (fun k => if badK (meetF N ws) hs k = true then some (.int (0 + (k : Nat))) else none) ?_ (fun D H4 nD s4 eD => ?_)
    · intro k H' hk sm R R0 g1 g2
      obtain ⟨rw', hrw, hrs⟩ := dp_row hb dms (show k < (meetF N ws).length by rw [meetF_len]; omega)
      have lrow : ((meetF N ws).getD k []).length ≤ 100 := by
        have := (meetF_adj N ws).len ((meetF N ws).getD k []) (by rw [List.getD_eq_getElem?_getD, List.getElem?_eq_getElem (by rw [meetF_len]; omega)]; exact List.getElem_mem _)
        rw [meetF_len] at this
        omega
      wtm_at "s"
      refine k_ixI (sm.seq hl) (by omega) (by omega) ?_
      wtm_at "s"
      refine k_ixL (sm.seq hb) (atI_nat' hrw) ?_
      wtm_at "s"
      refine lc_pure (sm.seq hrs) ((meetF N ws).getD k []) (by simp) (by omega) (fun o => some (.int (hs.getD o.toNat 0))) ?_ (fun D2 H2 nD2 s2 eD2 => ?_)
      · intro j x o H' hx ho sm2 R R0 g1 g2
        rw [List.getElem?_map, ho] at hx
        cases hx
        have rg := (meetF_adj N ws).rng k o (List.mem_of_getElem? ho)
        rw [meetF_len] at rg
        wtm_at "s"
        refine k_ixI ((sm.trans sm2).seq hl) rg.1 (by omega) ?_
        exact g1 _ rfl
      · have ex : ((meetF N ws).getD k []).filterMap (fun o => some (V.int (hs.getD o.toNat 0))) = (((meetF N ws).getD k []).map fun o => hs.getD o.toNat 0).map V.int := by
          rw [List.map_map, ← List.filterMap_eq_map]; rfl
        rw [ex] at eD2
        rw [Int.zero_add, Int.toNat_natCast]
        refine k_inI (sl eD2) ?_
        have eb : decide (hs.getD k 0 ∈ ((meetF N ws).getD k []).map fun o => hs.getD o.toNat 0) = badK (meetF N ws) hs k := rfl
        rw [eb]
        cases hbk : badK (meetF N ws) hs k with
        | true =>
          wtm_at "s"
          exact g1 _ H2 (by rw [hbk, Int.zero_add]; rfl) s2
        | false =>
          wtm_at "s"
          exact g2 H2 (by rw [hbk]; rfl) s2
    · rw [keepI_fm] at eD
      wtm_at "s"
      refine kL (by simp) (fun l5 H5 nl5 s5 e5 => ?_)
      refine k_eqD (n := 1) (dp_of_ints (sl (s5 _ _ eD))) (dp_of_ints (ns := []) (sl e5)) (sh_ints _) (sh_ints _) (by decide) ?_
      have s05 := s4.trans s5
      have ke : keepI hs.length (badK (meetF N ws) hs) = [] ↔ ∀ k, k < hs.length → badK (meetF N ws) hs k = false := by
        rw [List.eq_nil_iff_forall_not_mem]
        constructor
        · intro h k hk
          cases z : badK (meetF N ws) hs k with
          | false => rfl
          | true => exact absurd (keepI_mem.mpr ⟨by omega, by omega, by rw [Int.toNat_natCast]; exact z⟩) (h (k : Int))
        · intro h x hx
          obtain ⟨h1, h2, h3⟩ := keepI_mem.mp hx
          rw [h x.toNat (by omega)] at h3
          cases h3
      generalize keepI hs.length (badK (meetF N ws) hs) = bs at ke
      cases bs with
      | cons k kr =>
        rw [show PyData.eqv (dInts (k :: kr)) (dInts []) = false from rfl]
        wtm_at "s"
        refine no H5 s05 fun ⟨_, hs', e, el, nb, _⟩ => ?_
        rw [← dints_eq e] at nb
        cases ke.mpr ((bad_iff ok hok lhs).mp nb).2
      | nil =>
        rw [show PyData.eqv (dInts []) (dInts []) = true from rfl]
        have ng := (bad_iff ok hok lhs).mpr ⟨pos, ke.mp rfl⟩
        wtm_at "s"
        refine ⟨l, hs, rfl, s05.seq hl, by omega, ?_⟩
        wtm_at "s"
        have ed := whole_int c1
        refine k_eqD (c := .int (Cm.unl hs : Nat)) (d := dh) (n := 1) (.int _) (dp_same s05 d1) sh_int (by rw [ed]; exact sh_int) (by decide) ?_
        refine q _ H5 s05 ?_
        have eb : PyData.eqv (.int (Cm.unl hs : Nat)) dh = decide ((Cm.unl hs : Int) = intD dh) := by
          rw [ed]
          show ((Cm.unl hs : Int) == intD dh) = decide ((Cm.unl hs : Int) = intD dh)
          by_cases z : (Cm.unl hs : Int) = intD dh
          · rw [decide_eq_true z, z]; simp
          · rw [decide_eq_false z]; simpa using z
        rw [eb, decide_eq_true_eq]
        constructor
        · exact fun z => ⟨c1, hs, rfl, lhs, ng, z⟩
        · rintro ⟨_, hs', e, _, _, z⟩
          rw [dints_eq e]; exact z
abbrev sp_law_hues_are_so (K : PySem.W.Frag) : Sp := fun vs H Q E => ∃ v0 v1 v2, vs = [v0, v1, v2] ∧ pr_law_hues_are_so K v0 v1 v2 H Q E
theorem ok_law_hues_are_so (T : Txt K mg A) : FnOk P w K mg base CX0 2 A.a_law_hues_are_so A.d_law_hues_are_so ["_law_meets_here", "_law_h", "_law_hues"] (sp_law_hues_are_so K) := by
  refine T.F_law_hues_are_so.ok sc_law_hues_are_so (fun vs H Q E h => by obtain ⟨v0, v1, v2, rfl, _⟩ := h; rfl) (fun cdv A0 outer s H vs Q E hr h => ?_)
  obtain ⟨v0, v1, v2, rfl, h⟩ := h
  exact ⟨t_law_hues_are_so K, (pss_cons (ps_if (PW.pt (pw_or (pt_not (pt_val (pe_call (ok_law_whole T) (hr.mono (by decide)) (by rfl) T.g_law_whole T.F_law_whole.kp T.b_law_whole .nil pass0 (pa_cons (pv 1) pa_nil)))) (pw_or (pt_not (pt_val (pe_callB q_isi (by rfl) T.z_isinstance (by decide +kernel) (pa_cons (pv 2) (pa_cons (pe_bltn (v := .ty "list") (by rfl) T.z_list (by decide +kernel) rfl) pa_nil))))) (pw_or1 (pt_cmpR op_ne (pe_callB q_len (by rfl) T.z_len (by decide +kernel) (pa_cons (pv 2) pa_nil)) (pe_callB q_len (by rfl) T.z_len (by decide +kernel) (pa_cons (pv 0) pa_nil)) (nomark _)))))) (pss_one (ps_ret pe_bl)) pss_nil)
      (pss_cons (ps_for PassesOwn.never rfl (pi_list (pv 2)) (pg_name (i := 3) sc_law_hues_are_so.nd rfl (Or.inl rfl))
      (pss_one (ps_if (PW.pt (pw_or (pt_not (pt_val (pe_call (ok_law_whole T) (hr.mono (by decide)) (by rfl) T.g_law_whole T.F_law_whole.kp T.b_law_whole .nil pass0 (pa_cons (pv 3) pa_nil)))) (pw_or1 (pt_cmpR op_lt (pv 3) pe_int (nomark _))))) (pss_one (ps_ret pe_bl)) pss_nil)))
      (pss_cons (ps_setLc (i := 4) (own := [("_law_k", 5)]) (by rfl) sc_law_hues_are_so.nd rfl rfl (sw_true rfl rfl rfl (by decide +kernel)) (pi_range1 (by rfl) T.z_range (pa_cons (pe_callB q_len (by rfl) T.z_len (by decide +kernel) (pa_cons (pv 2) pa_nil)) pa_nil)) (blkOk_by (own := [("_law_k", 5)]) (N := ["_law_meets_here", "_law_h", "_law_hues", "_law_hue", "_law_bad", "_law_k", "_law_other"]) (sc := defScope s_law_hues_are_so) (by decide +kernel)) (fun _ _ _ _ _ => (pg_name (i := 5) sc_law_hues_are_so.nd rfl (Or.inl rfl))) (fun _ _ _ _ _ => (pts_one (pt_cmpR op_in_seq (pe_ix ix_list (pv 2) (pv 5) (fun _ _ => rfl)) (pe_lc (own := [("_law_other", 6)]) (by rfl) sc_law_hues_are_so.nd (pi_list (pe_ix ix_list (pv 0) (pv 5) (fun _ _ => rfl))) (blkOk_by (own := [("_law_other", 6)]) (N := ["_law_meets_here", "_law_h", "_law_hues", "_law_hue", "_law_bad", "_law_k", "_law_other"]) (sc := { kind := PySem.ScopeKind.function, names := [ (PySem.Str.ofString ".0", PySem.NameKind.local), (PySem.Str.ofString "_law_k", PySem.NameKind.local), (PySem.Str.ofString "_law_hues", PySem.NameKind.cell), (PySem.Str.ofString "_law_meets_here", PySem.NameKind.cell)], isGenerator := false, isCoroutine := false, more := [] : PySem.Scope }) (by decide +kernel)) (fun _ _ _ _ _ => (pg_name (i := 6) sc_law_hues_are_so.nd rfl (Or.inl rfl))) (fun _ _ _ _ _ => pts_nil) (fun _ _ _ _ _ => (pe_ix ix_list (pv 2) (pv 6) (fun _ _ => rfl)))) (by rfl)))) (fun _ _ _ _ _ => (pv 5)))
      (pss_one (ps_ret (pe_and (pe_cmpR (op_eqD hr.units) (pv 4) (pe_lst pa_nil) (nomark _)) (pe_one (pe_cmpR (op_eqD hr.units) (pe_lenU (by rfl) (by rfl) T.z_len (by rfl) T.z_set (pv 2)) (pv 1) (nomark _))))))))), pure_law_hues_are_so h⟩


def pr_law_sum (K : PySem.W.Frag) (v0 v1 v2 v3 v4 : V) (H : Hp) (Q : VK) (_ : XK) : Prop := ∃ (n : Int) (ws ss : List (Int × Int)) (a : Addr) (e f : Int), Dp K H v0 (Net.ring n).d ∧ (Net.ring n).ok ∧ Dp K H v1 (dPairs ws) ∧ ws.length ≤ 1000 ∧ (∀ w ∈ ws, isWay (.ring n) w.1 w.2) ∧ v2 = .ref a ∧ H a = some (.dK (dS ss)) ∧ SsOk ss ∧ v3 = .int e ∧ v4 = .int f ∧ ∀ H', Same H H' → Q (.int (sumF n ws ss e f)) H'
def t_law_sum (K : PySem.W.Frag) : TS :=
  (tSeq (tAsg (tC (.int 0)) (gName 5))
    (tSeq (tFor (iEnum K (tCons (tVar 1) tNil)) (gTup K 2 (gCons (gName 6) (gCons (gTup K 2 (gCons (gName 7) (gCons (gName 8) gNil))) gNil)))
      (tSeq (tAsg (tCall (sp_law_ties K) [] E0 (tCons (tVar 0) (tCons (tOp (rIxL K) (tLst (tCons (tTup (tCons (tVar 7) (tCons (tVar 8) tNil))) (tCons (tTup (tCons (tVar 8) (tCons (tVar 7) tNil))) tNil))) (tDGet2 (tVar 2) (tVar 6) (tC (.int 0)))) tNil))) (gName 9))
    (tIfS (tB (tDIn (tVar 6) (tVar 2))) (tAsg (tOp xAdd (tOp xAdd (tVar 5) (tCB rIntOf (tCons (tOp (rIn K false) (tVar 3) (tVar 9)) tNil))) (tCB rIntOf (tCons (tOp (rIn K false) (tVar 4) (tVar 9)) tNil))) (gName 5)) (tAsg (tOp xAdd (tVar 5) (tCB rIntOf (tCons (tOp rNe (tOp (rIn K false) (tVar 3) (tVar 9)) (tOp (rIn K false) (tVar 4) (tVar 9))) tNil))) (gName 5)))))
    (tRet (tVar 5))))
theorem pure_law_sum {v0 v1 v2 v3 v4 : V} {H : Hp} {Q : VK} {E : XK} (hh : pr_law_sum K v0 v1 v2 v3 v4 H Q E) : t_law_sum K ⟨fun _ H' => Q .non H', Q, fun _ _ => False, fun _ _ => False⟩ [some v0, some v1, some v2, some v3, some v4, none, none, none, none, none] H := by
  obtain ⟨n, ws, ss, a, e, f, d0, ok, d1, hz, hok, rfl, ha, so, rfl, rfl, q⟩ := hh
  obtain ⟨an, yy, rfl, hn, hy⟩ := dp_net d0
  obtain rfl := dp_int hy
  obtain ⟨b, xs, rfl, hb, hxs⟩ := dp_list d1
  have hl := dpa_len hxs
  rw [List.length_map] at hl
  unfold t_law_sum
  wtm_at "s"
  refine forE hb (fun i σ' H' => Same H H' ∧ ∃ s k6 k7 k8 k9, σ' = [some (.ref an), some (.ref b), some (.ref a), some (.int e), some (.int f), some (.int s), k6, k7, k8, k9] ∧ s = sumTo n ws ss e f i) ⟨Same.refl _, _, _, _, _, _, rfl, rfl⟩ (fun i σ H p => p.1.seq hb) ?_ ?_
  · rintro i x σ' H1 T H2 hx ⟨s1, s, k6, k7, k8, k9, rfl, hs⟩ nT s2 e2
    obtain ⟨w, c, hw1, rfl, hc⟩ := dpairs_get hxs hx
    have wok := hok w (List.mem_of_getElem? hw1)
    have wbk : isWay (.ring n) w.2 w.1 := ⟨fun z => wok.1 z.symm, wok.2.2.1, wok.2.1, wok.2.2.2.2, wok.2.2.2.1⟩
    have gw : ws.getD i (0, 0) = w := by rw [List.getD_eq_getElem?_getD, hw1]; rfl
    have s02 := s1.trans s2
    have hc2 := same_seqT s02 hc
    have stp1 : sumTo n ws ss e f (i + 1) = sumTo n ws ss e f i + wt n (ws.getD i (0, 0)) (lookS ss (i : Int)) e f := rfl
    rw [gw] at stp1
    wtm_at "s"
    refine kT (by simp) (fun t1 H3 n1 s3 e3 => ?_)
    wtm_at "s"
    refine kT (by simp) (fun t2 H4 n2 s4 e4 => ?_)
    wtm_at "s"
    refine kL (by simp) (fun l5 H5 n5 s5 e5 => ?_)
    have s25 := s3.trans (s4.trans s5)
    have ha5 := (s02.trans s25) _ _ ha
    have ont : ∀ t u : Int, (u = 0 ∨ u = 1) → ∀ ns, ns = tiesF (.ring n) (turnW w u) → decide (t ∈ ns) = onB n w u t := fun t u hu ns tt => by
      rw [tt]
      unfold onB
      rw [Bool.eq_iff_iff, decide_eq_true_eq, decide_eq_true_eq]
      rcases hu with rfl | rfl
      · exact tiesF_mem ok wok t
      · exact tiesF_mem ok wbk t
    wtm_at "s"
    refine k_aD ha5 ?_
    wtm_at "s"
    refine k_gD2 ha5 ?_
    rw [dS_val]
    have tail : ∀ (u : Int) (v : V) (H6 : Hp) (w' : Int × Int), Same H5 H6 → (u = 0 ∨ u = 1) → w' = turnW w u → True := fun _ _ _ _ _ _ _ => trivial
    clear tail
    cases hk : lookS ss (i : Int) with
    | none =>
      rw [hk] at stp1
      simp only [Option.map_none, Option.getD_none]
      wtm_at "s"
      refine k_ixL (sl e5) (v := .ref t1) rfl ?_
      wtm_at "s"
      refine ⟨_, _, rfl, .ring n, w.1, w.2, dp_same (s02.trans s25) d0, ok, dp_of_pair (stp ((s4.trans s5) _ _ e3)), wok, fun tl H6 ntl s6 e6 => ?_⟩
      have o1 := ont e 0 (.inl rfl) (tiesF (.ring n) (w.1, w.2)) rfl
      have o2 := ont f 0 (.inl rfl) (tiesF (.ring n) (w.1, w.2)) rfl
      wtm_at "s"
      refine k_iD (s6 _ _ ha5) ?_
      rw [dS_val, hk]
      simp only [Option.map_none, Option.isSome_none, Bool.false_eq_true, if_false]
      wtm_at "s"
      refine ⟨(s02.trans s25).trans s6, _, _, _, _, _, rfl, ?_⟩
      rw [stp1, o1, o2, hs]
      unfold wt
      congr 1
      cases onB n w 0 e <;> cases onB n w 0 f <;> rfl
    | some u =>
      rw [hk] at stp1
      simp only [Option.map_some, Option.getD_some]
      have uc := so _ _ hk
      have main : ∀ (tx : Addr) (w' : Int × Int), turnW w u = w' → isWay (.ring n) w'.1 w'.2 → H5 tx = some (.tup [.int w'.1, .int w'.2]) → atI [V.ref t1, .ref t2] u = some (.ref tx) → True := fun _ _ _ _ _ _ => trivial
      clear main
      wtm_at "s"
      rcases uc with rfl | rfl
      · refine k_ixL (sl e5) (v := .ref t1) rfl ?_
        wtm_at "s"
        refine ⟨_, _, rfl, .ring n, w.1, w.2, dp_same (s02.trans s25) d0, ok, dp_of_pair (stp ((s4.trans s5) _ _ e3)), wok, fun tl H6 ntl s6 e6 => ?_⟩
        have o1 := ont e 0 (.inl rfl) (tiesF (.ring n) (w.1, w.2)) rfl
        have o2 := ont f 0 (.inl rfl) (tiesF (.ring n) (w.1, w.2)) rfl
        wtm_at "s"
        refine k_iD (s6 _ _ ha5) ?_
        rw [dS_val, hk]
        simp only [Option.map_some, Option.isSome_some, Bool.false_eq_true, if_false]
        wtm_at "s"
        refine ⟨(s02.trans s25).trans s6, _, _, _, _, _, rfl, ?_⟩
        rw [stp1, o1, o2, hs]
        unfold wt b2i
        simp only []
        omega
      · refine k_ixL (sl e5) (v := .ref t2) rfl ?_
        wtm_at "s"
        refine ⟨_, _, rfl, .ring n, w.2, w.1, dp_same (s02.trans s25) d0, ok, dp_of_pair (stp (s5 _ _ e4)), wbk, fun tl H6 ntl s6 e6 => ?_⟩
        have o1 := ont e 1 (.inr rfl) (tiesF (.ring n) (w.2, w.1)) rfl
        have o2 := ont f 1 (.inr rfl) (tiesF (.ring n) (w.2, w.1)) rfl
        wtm_at "s"
        refine k_iD (s6 _ _ ha5) ?_
        rw [dS_val, hk]
        simp only [Option.map_some, Option.isSome_some, Bool.false_eq_true, if_false]
        wtm_at "s"
        refine ⟨(s02.trans s25).trans s6, _, _, _, _, _, rfl, ?_⟩
        rw [stp1, o1, o2, hs]
        unfold wt b2i
        simp only []
        omega
  · rintro σ' H1 ⟨s1, s, k6, k7, k8, k9, rfl, hs⟩
    wtm_at "s"
    rw [hs, hl]
    exact q H1 s1
abbrev sp_law_sum (K : PySem.W.Frag) : Sp := fun vs H Q E => ∃ v0 v1 v2 v3 v4, vs = [v0, v1, v2, v3, v4] ∧ pr_law_sum K v0 v1 v2 v3 v4 H Q E
theorem ok_law_sum (T : Txt K mg A) : FnOk P w K mg base CX0 3 A.a_law_sum A.d_law_sum ["_law_net_here", "_law_ways_here", "_law_settled", "_law_e", "_law_f"] (sp_law_sum K) := by
  refine T.F_law_sum.ok sc_law_sum (fun vs H Q E h => by obtain ⟨v0, v1, v2, v3, v4, rfl, _⟩ := h; rfl) (fun cdv A0 outer s H vs Q E hr h => ?_)
  obtain ⟨v0, v1, v2, v3, v4, rfl, h⟩ := h
  exact ⟨t_law_sum K, (pss_cons (ps_set (i := 5) sc_law_sum.nd rfl (Or.inl rfl) pe_int)
      (pss_cons (ps_for PassesOwn.never rfl (pi_enum (by rfl) T.z_enumerate (pa_cons (pv 1) pa_nil)) (pg_tup (by rfl) (pgs_cons (pg_name (i := 6) sc_law_sum.nd rfl (Or.inl rfl)) (pgs_cons (pg_tup (by rfl) (pgs_cons (pg_name (i := 7) sc_law_sum.nd rfl (Or.inl rfl)) (pgs_cons (pg_name (i := 8) sc_law_sum.nd rfl (Or.inl rfl)) pgs_nil))) pgs_nil)))
      (pss_cons (ps_set (i := 9) sc_law_sum.nd rfl (Or.inl rfl) (pe_call (ok_law_ties T) (hr.mono (by decide)) (by rfl) T.g_law_ties T.F_law_ties.kp T.b_law_ties .nil pass0 (pa_cons (pv 0) (pa_cons (pe_ix ix_list (pe_lst (pa_cons (pe_tup (pa_cons (pv 7) (pa_cons (pv 8) pa_nil))) (pa_cons (pe_tup (pa_cons (pv 8) (pa_cons (pv 7) pa_nil))) pa_nil))) (pe_dget2 (Nat.lt_of_le_of_lt (Nat.add_le_add_left (by decide) _) hr.units) (pv 2) (pv 6) pe_int ⟨rfl, rfl, rfl, rfl⟩) (fun _ _ => rfl)) pa_nil))))
      (pss_one (ps_if (pt_cmp (pc_din (Nat.lt_of_le_of_lt (Nat.add_le_add_left (by decide) _) hr.units) (pv 6) (pv 2)) (by rfl)) (pss_one (ps_set (i := 5) sc_law_sum.nd rfl (Or.inl rfl) (pe_op op_add (pe_op op_add (pv 5) (pe_callTy q_intB (by rfl) T.z_int (by decide +kernel) (pa_cons (pe_cmpR op_in_seq (pv 3) (pv 9) (by rfl)) pa_nil))) (pe_callTy q_intB (by rfl) T.z_int (by decide +kernel) (pa_cons (pe_cmpR op_in_seq (pv 4) (pv 9) (by rfl)) pa_nil))))) (pss_one (ps_set (i := 5) sc_law_sum.nd rfl (Or.inl rfl) (pe_op op_add (pv 5) (pe_callTy q_intB (by rfl) T.z_int (by decide +kernel) (pa_cons (pe_cmpR op_ne (pe_cmpR op_in_seq (pv 3) (pv 9) (by rfl)) (pe_cmpR op_in_seq (pv 4) (pv 9) (by rfl)) (nomark _)) pa_nil)))))))))
      (pss_one (ps_ret (pv 5))))), pure_law_sum h⟩


def pr_law_turn_right (K : PySem.W.Frag) (d : Nat) (v0 v1 v2 v3 v4 : V) (H : Hp) (Q : VK) (_ : XK) : Prop := ∃ (n : Int) (ws : List (Int × Int)) (ss : List (Int × Int)) (a : Addr) (m : Int) (D : PyData), Dp K H v0 (Net.ring n).d ∧ (Net.ring n).ok ∧ Dp K H v1 (dPairs ws) ∧ (∀ w ∈ ws, isWay (.ring n) w.1 w.2) ∧ ws.length ≤ 1000 ∧ v2 = .int m ∧ -100000 ≤ m ∧ m ≤ 100000 ∧ v3 = .ref a ∧ H a = some (.dK (dS ss)) ∧ SsOk ss ∧ ss.length + d ≤ 900 ∧ fr ws ss < d ∧ Dp K H v4 D ∧
  ∀ H', Same H H' → Q (.bl (papJ n ws m d ss D)) H'
def spd_law_turn_right (K : PySem.W.Frag) : Nat → Sp
  | 0 => fun _ _ _ _ => False
  | d + 1 => fun vs H Q E => ∃ v0 v1 v2 v3 v4, vs = [v0, v1, v2, v3, v4] ∧ pr_law_turn_right K d v0 v1 v2 v3 v4 H Q E
def t_law_turn_right (K : PySem.W.Frag) (sp : Sp) : TS :=
  (tSeq (tIfS (tOr (tNot (tB (tCB (rIsi K) (tCons (tVar 4) (tCons (tC (.ty "tuple")) tNil))))) (tTest (tOp rNe (tCB (rLenX K) (tCons (tVar 4) tNil)) (tC (.int 3))))) (tRet (tC (.bl false))) tNext)
    (tSeq (tIfS (tB (tCB (rIsi K) (tCons (tOp (rIxT K) (tVar 4) (tC (.int 0))) (tCons (tC (.ty "str")) tNil)))) (tSeq (tFor (iTup K (tSl (rSlT K) (tVar 4) (tPart (tC (.int 1))) tNoPart)) (gName 5)
      (tIfS (tOr (tNot (tB (tCall (sp_law_whole K) [] E0 (tCons (tVar 5) tNil)))) (tOr (tTest (tOp xLt (tVar 5) (tC (.int 0)))) (tTest (tOp xGe (tVar 5) (tOp (rIxT K) (tVar 0) (tC (.int 1))))))) (tRet (tC (.bl false))) tNext))
    (tRet (tAndV (tOp rEq (tOp (rIxT K) (tVar 4) (tC (.int 0))) (tC (.str (Str.ofString "ties")))) (tOp xGt (tCall (sp_law_sum K) [] E0 (tCons (tVar 0) (tCons (tVar 1) (tCons (tVar 3) (tCons (tOp (rIxT K) (tVar 4) (tC (.int 1))) (tCons (tOp (rIxT K) (tVar 4) (tC (.int 2))) tNil)))))) (tOp xMul (tC (.int 2)) (tVar 2)))))) tNext)
    (tSeq (tIfS (tOr (tNot (tB (tCall (sp_law_whole K) [] E0 (tCons (tOp (rIxT K) (tVar 4) (tC (.int 0))) tNil)))) (tOr (tTest (tOp xLt (tOp (rIxT K) (tVar 4) (tC (.int 0))) (tC (.int 0)))) (tOr (tTest (tOp xGe (tOp (rIxT K) (tVar 4) (tC (.int 0))) (tCB (rLenX K) (tCons (tVar 1) tNil)))) (tB (tDIn (tOp (rIxT K) (tVar 4) (tC (.int 0))) (tVar 3)))))) (tRet (tC (.bl false))) tNext)
    (tSeq (tFor (iRng1 (tCons (tC (.int 2)) tNil)) (gName 6)
      (tSeq (tAsg (tCB rDictD (tCons (tVar 3) tNil)) (gName 7))
    (tSeq (sDPut (tVar 7) (tOp (rIxT K) (tVar 4) (tC (.int 0))) (tVar 6))
    (tIfS (tNot (tB (tCall sp [] E0 (tCons (tVar 0) (tCons (tVar 1) (tCons (tVar 2) (tCons (tVar 7) (tCons (tOp (rIxT K) (tVar 4) (tOp xAdd (tC (.int 1)) (tVar 6))) tNil)))))))) (tRet (tC (.bl false))) tNext))))
    (tRet (tC (.bl true)))))))
theorem pure_law_turn_right {d : Nat} {v0 v1 v2 v3 v4 : V} {H : Hp} {Q : VK} {E : XK} (hh : pr_law_turn_right K d v0 v1 v2 v3 v4 H Q E) : t_law_turn_right K (spd_law_turn_right K d) ⟨fun _ H' => Q .non H', Q, fun _ _ => False, fun _ _ => False⟩ [some v0, some v1, some v2, some v3, some v4, none, none, none] H := by
  obtain ⟨n, ws, ss, a, m, D, d0, ok, d1, hok, hz, rfl, m0, m1, rfl, ha, so, sd, hd, dD, q⟩ := hh
  obtain ⟨b, ys, rfl, hb, dys⟩ := dp_list d1
  have ly : ys.length = ws.length := by rw [dpa_len dys, List.length_map]
  obtain ⟨an, y, rfl, hn, hy⟩ := dp_net d0
  obtain rfl := dp_int hy
  obtain ⟨d, rfl⟩ : ∃ d', d = d' + 1 := ⟨d - 1, by omega⟩
  have q0 := q H (Same.refl _)
  unfold t_law_turn_right
  wtm_at "s"
  refine k_isiTupD dD ?_
  rcases (bcases (isD "tuple" D)).symm with c1 | c1
  · rw [c1]
    rw [papJ_not c1] at q0
    wtm_at "s"
    exact q0
  obtain ⟨ds, rfl⟩ := isD_tup c1
  rw [c1]
  obtain ⟨p, xs, rfl, hp, dx⟩ := dp_tup dD
  wtm_at "s"
  refine k_lenT hp ?_
  wtm_at "s"
  refine k_itn (fun c2 => ?_) (fun c2 => ?_)
  · rw [papJ_len (by have := dpa_len dx; omega)] at q0
    wtm_at "s"
    exact q0
  obtain ⟨x, y, z, da, db, dc, rfl, rfl, hx, hy, hz'⟩ := dpa3 dx (by have := dpa_len dx; omega)
  clear dx c1 c2
  wtm_at "s"
  refine k_isiStrD hx ?_
  rcases bcases (isD "str" da) with c1 | c1
  · rw [c1]
    have q1 : ∀ H', Same H H' → Q (.bl ((tieD n db && tieD n dc) && (isTies da && decide (2 * m < sumF n ws ss (intD db) (intD dc))))) H' := fun H' s => by
      have := q H' s
      unfold papJ at this
      rwa [if_pos c1] at this
    clear q q0
    wtm_at "s"
    refine k_slT hp (by rw [show HT.sIx [x, y, z].length 0 (some 1) = 1 from rfl]; omega) (fun p2 H1 np s1 e1 => ?_)
    have e1' : H1 p2 = some (.tup [y, z]) := e1
    refine forT (stp e1') (fun i σ' H' => H' = H1 ∧ (∃ k5, σ' = [some (.ref an), some (.ref b), some (.int m), some (.ref a), some (.ref p), k5, none, none]) ∧ ∀ dd ∈ [db, dc].take i, tieD n dd = true) ⟨rfl, ⟨_, rfl⟩, fun dd z => by simp at z⟩ (fun i σ' H' _ e => e.1 ▸ stp e1') ?_ ?_
    · rintro i w σ' H2 hw ⟨rfl, ⟨k5, rfl⟩, tk⟩
      have dyz : DpAll K H2 [y, z] [db, dc] := dpa_same s1 (.cons hy (.cons hz' .nil))
      obtain ⟨dd, hdd, dw⟩ := dpa_get dyz hw
      have mem : dd ∈ [db, dc] := List.mem_of_getElem? hdd
      have no : tieD n dd = false → Q (.bl false) H2 := fun e => by
        have := q1 H2 s1
        have z : (tieD n db && tieD n dc) = false := by
          rcases List.mem_cons.mp mem with rfl | mem
          · rw [e]; rfl
          · rw [← List.mem_singleton.mp mem, e, Bool.and_false]
        rwa [z, Bool.false_and] at this
      wtm_at "s"
      refine ⟨_, rfl, dd, dw, ?_⟩
      rcases bcases (wholeD dd) with c2 | c2
      · rw [c2]
        obtain rfl := dp_whole dw c2
        wtm_at "s"
        refine k_it (fun c3 => ?_) (fun c3 => ?_)
        · wtm_at "s"
          exact no (by unfold tieD; rw [decide_eq_false (by omega : ¬ 0 ≤ intD dd)]; simp)
        wtm_at "s"
        refine k_it (fun c4 => ?_) (fun c4 => ?_)
        · wtm_at "s"
          exact no (by unfold tieD; rw [decide_eq_false (by omega : ¬ intD dd < n)]; simp)
        wtm_at "s"
        refine ⟨rfl, ⟨_, rfl⟩, fun g hg => ?_⟩
        rw [List.take_add_one, hdd] at hg
        rcases List.mem_append.mp hg with hg | hg
        · exact tk g hg
        · obtain rfl : g = dd := by simpa using hg
          unfold tieD
          rw [c2, decide_eq_true (by omega : 0 ≤ intD g), decide_eq_true (by omega : intD g < n)]; rfl
      · rw [c2]
        wtm_at "s"
        exact no (by unfold tieD; rw [c2]; rfl)
    · rintro σ' H2 ⟨rfl, ⟨k5, rfl⟩, tk⟩
      have tb : tieD n db = true := tk _ (by simp)
      have tc : tieD n dc = true := tk _ (by simp)
      have wb : wholeD db = true := by unfold tieD at tb; simp at tb; exact tb.1.1
      have wc : wholeD dc = true := by unfold tieD at tc; simp at tc; exact tc.1.1
      obtain rfl := dp_whole hy wb
      obtain rfl := dp_whole hz' wc
      obtain ⟨s, rfl⟩ := isD_str c1
      have hp1 := same_seqT s1 hp
      have q2 := q1 H2 s1
      rw [tb, tc, Bool.true_and, Bool.true_and, show isTies (.str s) = decide (s = Str.ofString "ties") from rfl] at q2
      wtm_at "s"
      obtain rfl := dp_str hx
      refine k_eqS ?_
      wtm_at "s"
      rcases bcases (decide (s = Str.ofString "ties")) with c2 | c2
      · rw [c2] at q2 ⊢
        rw [Bool.true_and] at q2
        wtm_at "s"
        refine ⟨_, _, _, _, _, rfl, n, ws, ss, a, intD db, intD dc, dp_same s1 d0, ok, dp_same s1 d1, hz, hok, rfl, s1 _ _ ha, so, rfl, rfl, fun H3 s3 => ?_⟩
        have q3 := q1 H3 (s1.trans s3)
        rw [tb, tc, Bool.true_and, Bool.true_and, show isTies (.str s) = decide (s = Str.ofString "ties") from rfl, c2, Bool.true_and] at q3
        wtm_at "s"
        exact q3
      · rw [c2] at q2 ⊢
        rw [Bool.false_and] at q2
        wtm_at "s"
        exact q2
  · rw [c1]
    have q1 : ∀ H', Same H H' → Q (.bl ((wholeD da && decide (0 ≤ intD da) && decide (intD da < ws.length) && (lookS ss (intD da)).isNone) && (papJ n ws m d (ss ++ [(intD da, 0)]) db && papJ n ws m d (ss ++ [(intD da, 1)]) dc))) H' := fun H' s => by
      have := q H' s
      unfold papJ at this
      rwa [if_neg (by rw [c1]; decide)] at this
    have no : (wholeD da && decide (0 ≤ intD da) && decide (intD da < ws.length) && (lookS ss (intD da)).isNone) = false → Q (.bl false) H := fun e => by
      have := q1 H (Same.refl _)
      rwa [e, Bool.false_and] at this
    clear q q0
    wtm_at "s"
    refine ⟨_, rfl, da, hx, ?_⟩
    rcases (bcases (wholeD da)).symm with c2 | c2
    · rw [c2]
      wtm_at "s"
      exact no (by rw [c2]; rfl)
    obtain rfl := dp_whole hx c2
    rw [c2]
    wtm_at "s"
    refine k_it (fun c3 => ?_) (fun c3 => ?_)
    · wtm_at "s"
      exact no (by rw [decide_eq_false (by omega : ¬ 0 ≤ intD da)]; simp)
    wtm_at "s"
    refine k_it (fun c4 => ?_) (fun c4 => ?_)
    · wtm_at "s"
      exact no (by rw [decide_eq_false (by omega : ¬ intD da < ws.length)]; simp)
    wtm_at "s"
    refine k_iD ha ?_
    rw [dS_val]
    cases hk : lookS ss (intD da) with
    | some u =>
      simp only [Option.map_some, Option.isSome_some, Bool.false_eq_true, if_false]
      wtm_at "s"
      exact no (by rw [hk]; simp)
    | none =>
      simp only [Option.map_none, Option.isSome_none, Bool.false_eq_true, if_false]
      have k0 : 0 ≤ intD da := by omega
      have k1 : intD da < ws.length := by omega
      have frl := fun u => fr_lt (u := u) k0 k1 hk
      have q2 : ∀ H', Same H H' → Q (.bl (papJ n ws m d (ss ++ [(intD da, 0)]) db && papJ n ws m d (ss ++ [(intD da, 1)]) dc)) H' := fun H' s => by
        have := q1 H' s
        rw [c2, decide_eq_true k0, decide_eq_true k1, hk] at this
        exact this
      clear q1 no
      wtm_at "s"
      refine forR (fun i σ' H' => Same H H' ∧ (∃ k6 k7, σ' = [some (.ref an), some (.ref b), some (.int m), some (.ref a), some (.ref p), none, k6, k7]) ∧ (1 ≤ i → papJ n ws m d (ss ++ [(intD da, 0)]) db = true) ∧ (2 ≤ i → papJ n ws m d (ss ++ [(intD da, 1)]) dc = true)) ⟨Same.refl _, ⟨_, _, rfl⟩, fun z => absurd z (by omega), fun z => absurd z (by omega)⟩ ?_ ?_
      · rintro i σ' H1 hi ⟨s1, ⟨k6, k7, rfl⟩, r1, r2⟩
        have hp1 := same_seqT s1 hp
        wtm_at "s"
        refine k_dictD (s1 _ _ ha) (fun p1 H2 np1 s2 e2 => ?_)
        wtm_at "s"
        refine k_pD e2 (by unfold dS; simp; omega) ?_
        rw [dS_put hk]
        have s3 := (s1.trans s2).trans (Same.refl H2)
        have sU : Same H (upd H2 p1 (.dK (dS (ss ++ [(intD da, (0 : Int) + (i : Nat))])))) := same_mut (s1.trans s2) (s1.free np1)
        have eU : upd H2 p1 (.dK (dS (ss ++ [(intD da, (0 : Int) + (i : Nat))]))) p1 = some (.dK (dS (ss ++ [(intD da, (0 : Int) + (i : Nat))]))) := upd_same
        generalize upd H2 p1 (.dK (dS (ss ++ [(intD da, (0 : Int) + (i : Nat))]))) = H3 at sU eU ⊢
        clear s3
        wtm_at "s"
        have ic : i = 0 ∨ i = 1 := by omega
        rcases ic with rfl | rfl
        · refine k_ixT (same_seqT sU hp) (v := y) rfl ?_
          wtm_at "s"
          refine ⟨_, _, _, _, _, rfl, n, ws, ss ++ [(intD da, 0)], p1, m, db, dp_same sU d0, ok, dp_same sU d1, hok, hz, rfl, m0, m1, rfl, eU, so.add hk (.inl rfl), by simp; omega, by have := frl 0; omega, dp_same sU hy, fun H4 s4 => ?_⟩
          rcases (bcases (papJ n ws m d (ss ++ [(intD da, 0)]) db)).symm with c5 | c5
          · rw [c5]
            have q3 := q2 H4 (sU.trans s4)
            rw [c5, Bool.false_and] at q3
            wtm_at "s"
            exact q3
          · rw [c5]
            wtm_at "s"
            exact ⟨sU.trans s4, ⟨_, _, rfl⟩, fun _ => rfl, fun z => absurd z (by omega)⟩
        · refine k_ixT (same_seqT sU hp) (v := z) rfl ?_
          wtm_at "s"
          refine ⟨_, _, _, _, _, rfl, n, ws, ss ++ [(intD da, 1)], p1, m, dc, dp_same sU d0, ok, dp_same sU d1, hok, hz, rfl, m0, m1, rfl, eU, so.add hk (.inr rfl), by simp; omega, by have := frl 1; omega, dp_same sU hz', fun H4 s4 => ?_⟩
          rcases (bcases (papJ n ws m d (ss ++ [(intD da, 1)]) dc)).symm with c5 | c5
          · rw [c5]
            have q3 := q2 H4 (sU.trans s4)
            rw [c5, Bool.and_false] at q3
            wtm_at "s"
            exact q3
          · rw [c5]
            wtm_at "s"
            exact ⟨sU.trans s4, ⟨_, _, rfl⟩, fun _ => r1 (by omega), fun _ => rfl⟩
      · rintro σ' H1 ⟨s1, ⟨k6, k7, rfl⟩, r1, r2⟩
        have q3 := q2 H1 s1
        have z2 : (2 : Int).toNat = 2 := rfl
        rw [r1 (by rw [z2]; omega), r2 (by rw [z2]; omega)] at q3
        wtm_at "s"
        exact q3
theorem okd_law_turn_right (T : Txt K mg A) : ∀ d : Nat, FnOk P w K mg base CX0 (4 + d) A.a_law_turn_right A.d_law_turn_right ["_law_net_here", "_law_ways_here", "_law_m", "_law_settled", "_law_paper"] (spd_law_turn_right K d)
  | 0 => T.F_law_turn_right.ok sc_law_turn_right (fun vs H Q E h => False.elim h) (fun cdv A0 outer s H vs Q E hr h => False.elim h)
  | d + 1 => by
    refine T.F_law_turn_right.ok sc_law_turn_right (fun vs H Q E h => by obtain ⟨v0, v1, v2, v3, v4, rfl, _⟩ := h; rfl) (fun cdv A0 outer s H vs Q E hr h => ?_)
    obtain ⟨v0, v1, v2, v3, v4, rfl, h⟩ := h
    exact ⟨t_law_turn_right K (spd_law_turn_right K d), (pss_cons (ps_if (PW.pt (pw_or (pt_not (pt_val (pe_callB q_isi (by rfl) T.z_isinstance (by decide +kernel) (pa_cons (pv 4) (pa_cons (pe_bltn (v := .ty "tuple") (by rfl) T.z_tuple (by decide +kernel) rfl) pa_nil))))) (pw_or1 (pt_cmpR op_ne (pe_callB q_len (by rfl) T.z_len (by decide +kernel) (pa_cons (pv 4) pa_nil)) pe_int (nomark _))))) (pss_one (ps_ret pe_bl)) pss_nil)
      (pss_cons (ps_if (pt_val (pe_callB q_isi (by rfl) T.z_isinstance (by decide +kernel) (pa_cons (pe_ix ix_tup (pv 4) pe_int (fun _ _ => rfl)) (pa_cons (pe_bltn (v := .ty "str") (by rfl) T.z_str (by decide +kernel) rfl) pa_nil)))) (pss_cons (ps_for PassesOwn.never rfl (pi_tup (pe_slice sl_tup (pv 4) (po_some pe_int) po_none)) (pg_name (i := 5) sc_law_turn_right.nd rfl (Or.inl rfl))
      (pss_one (ps_if (PW.pt (pw_or (pt_not (pt_val (pe_call (ok_law_whole T) (hr.mono (by first | decide | omega | (simp only [Nat.add_eq]; omega))) (by rfl) T.g_law_whole T.F_law_whole.kp T.b_law_whole .nil pass0 (pa_cons (pv 5) pa_nil)))) (pw_or (pt_cmpR op_lt (pv 5) pe_int (nomark _)) (pw_or1 (pt_cmpR op_ge (pv 5) (pe_ix ix_tup (pv 0) pe_int (fun _ _ => rfl)) (nomark _)))))) (pss_one (ps_ret pe_bl)) pss_nil)))
      (pss_one (ps_ret (pe_and (pe_cmpR op_eq (pe_ix ix_tup (pv 4) pe_int (fun _ _ => rfl)) pe_str (nomark _)) (pe_one (pe_cmpR op_gt (pe_call (ok_law_sum T) (hr.mono (by first | decide | omega | (simp only [Nat.add_eq]; omega))) (by rfl) T.g_law_sum T.F_law_sum.kp T.b_law_sum .nil pass0 (pa_cons (pv 0) (pa_cons (pv 1) (pa_cons (pv 3) (pa_cons (pe_ix ix_tup (pv 4) pe_int (fun _ _ => rfl)) (pa_cons (pe_ix ix_tup (pv 4) pe_int (fun _ _ => rfl)) pa_nil)))))) (pe_op op_mul pe_int (pv 2)) (nomark _))))))) pss_nil)
      (pss_cons (ps_if (PW.pt (pw_or (pt_not (pt_val (pe_call (ok_law_whole T) (hr.mono (by first | decide | omega | (simp only [Nat.add_eq]; omega))) (by rfl) T.g_law_whole T.F_law_whole.kp T.b_law_whole .nil pass0 (pa_cons (pe_ix ix_tup (pv 4) pe_int (fun _ _ => rfl)) pa_nil)))) (pw_or (pt_cmpR op_lt (pe_ix ix_tup (pv 4) pe_int (fun _ _ => rfl)) pe_int (nomark _)) (pw_or (pt_cmpR op_ge (pe_ix ix_tup (pv 4) pe_int (fun _ _ => rfl)) (pe_callB q_len (by rfl) T.z_len (by decide +kernel) (pa_cons (pv 1) pa_nil)) (nomark _)) (pw_or1 (pt_cmp (pc_din (Nat.lt_of_le_of_lt (Nat.add_le_add_left (by decide) _) hr.units) (pe_ix ix_tup (pv 4) pe_int (fun _ _ => rfl)) (pv 3)) (by rfl))))))) (pss_one (ps_ret pe_bl)) pss_nil)
      (pss_cons (ps_for PassesOwn.never rfl (pi_range1 (by rfl) T.z_range (pa_cons pe_int pa_nil)) (pg_name (i := 6) sc_law_turn_right.nd rfl (Or.inl rfl))
      (pss_cons (ps_set (i := 7) sc_law_turn_right.nd rfl (Or.inl rfl) (pe_callTy q_dictD (by rfl) T.z_dict (by decide +kernel) (pa_cons (pv 3) pa_nil)))
      (pss_cons (ps_dput (Nat.lt_of_le_of_lt (Nat.add_le_add_left (by decide) _) hr.units) (pv 7) (pe_ix ix_tup (pv 4) pe_int (fun _ _ => rfl)) (pv 6) (by rfl))
      (pss_one (ps_if (pt_not (pt_val (pe_call (okd_law_turn_right T d) (hr.mono (by first | decide | omega | (simp only [Nat.add_eq]; omega))) (by rfl) T.g_law_turn_right T.F_law_turn_right.kp T.b_law_turn_right .nil pass0 (pa_cons (pv 0) (pa_cons (pv 1) (pa_cons (pv 2) (pa_cons (pv 7) (pa_cons (pe_ix ix_tup (pv 4) (pe_op op_add pe_int (pv 6)) (fun _ _ => rfl)) pa_nil)))))))) (pss_one (ps_ret pe_bl)) pss_nil)))))
      (pss_one (ps_ret pe_bl)))))), pure_law_turn_right h⟩
abbrev sp_law_turn_right (K : PySem.W.Frag) : Sp := fun vs H Q E => ∃ v0 v1 v2 v3 v4, vs = [v0, v1, v2, v3, v4] ∧ ∃ d : Nat, d < 12 ∧ pr_law_turn_right K d v0 v1 v2 v3 v4 H Q E
theorem ok_law_turn_right (T : Txt K mg A) : FnOk P w K mg base CX0 16 A.a_law_turn_right A.d_law_turn_right ["_law_net_here", "_law_ways_here", "_law_m", "_law_settled", "_law_paper"] (sp_law_turn_right K) := by
  refine T.F_law_turn_right.ok sc_law_turn_right (fun vs H Q E h => by obtain ⟨v0, v1, v2, v3, v4, rfl, _⟩ := h; rfl) (fun cdv A0 outer s H vs Q E hr h => ?_)
  obtain ⟨v0, v1, v2, v3, v4, rfl, d, hd, h⟩ := h
  exact ⟨t_law_turn_right K (spd_law_turn_right K d), (pss_cons (ps_if (PW.pt (pw_or (pt_not (pt_val (pe_callB q_isi (by rfl) T.z_isinstance (by decide +kernel) (pa_cons (pv 4) (pa_cons (pe_bltn (v := .ty "tuple") (by rfl) T.z_tuple (by decide +kernel) rfl) pa_nil))))) (pw_or1 (pt_cmpR op_ne (pe_callB q_len (by rfl) T.z_len (by decide +kernel) (pa_cons (pv 4) pa_nil)) pe_int (nomark _))))) (pss_one (ps_ret pe_bl)) pss_nil)
      (pss_cons (ps_if (pt_val (pe_callB q_isi (by rfl) T.z_isinstance (by decide +kernel) (pa_cons (pe_ix ix_tup (pv 4) pe_int (fun _ _ => rfl)) (pa_cons (pe_bltn (v := .ty "str") (by rfl) T.z_str (by decide +kernel) rfl) pa_nil)))) (pss_cons (ps_for PassesOwn.never rfl (pi_tup (pe_slice sl_tup (pv 4) (po_some pe_int) po_none)) (pg_name (i := 5) sc_law_turn_right.nd rfl (Or.inl rfl))
      (pss_one (ps_if (PW.pt (pw_or (pt_not (pt_val (pe_call (ok_law_whole T) (hr.mono (by first | decide | omega | (simp only [Nat.add_eq]; omega))) (by rfl) T.g_law_whole T.F_law_whole.kp T.b_law_whole .nil pass0 (pa_cons (pv 5) pa_nil)))) (pw_or (pt_cmpR op_lt (pv 5) pe_int (nomark _)) (pw_or1 (pt_cmpR op_ge (pv 5) (pe_ix ix_tup (pv 0) pe_int (fun _ _ => rfl)) (nomark _)))))) (pss_one (ps_ret pe_bl)) pss_nil)))
      (pss_one (ps_ret (pe_and (pe_cmpR op_eq (pe_ix ix_tup (pv 4) pe_int (fun _ _ => rfl)) pe_str (nomark _)) (pe_one (pe_cmpR op_gt (pe_call (ok_law_sum T) (hr.mono (by first | decide | omega | (simp only [Nat.add_eq]; omega))) (by rfl) T.g_law_sum T.F_law_sum.kp T.b_law_sum .nil pass0 (pa_cons (pv 0) (pa_cons (pv 1) (pa_cons (pv 3) (pa_cons (pe_ix ix_tup (pv 4) pe_int (fun _ _ => rfl)) (pa_cons (pe_ix ix_tup (pv 4) pe_int (fun _ _ => rfl)) pa_nil)))))) (pe_op op_mul pe_int (pv 2)) (nomark _))))))) pss_nil)
      (pss_cons (ps_if (PW.pt (pw_or (pt_not (pt_val (pe_call (ok_law_whole T) (hr.mono (by first | decide | omega | (simp only [Nat.add_eq]; omega))) (by rfl) T.g_law_whole T.F_law_whole.kp T.b_law_whole .nil pass0 (pa_cons (pe_ix ix_tup (pv 4) pe_int (fun _ _ => rfl)) pa_nil)))) (pw_or (pt_cmpR op_lt (pe_ix ix_tup (pv 4) pe_int (fun _ _ => rfl)) pe_int (nomark _)) (pw_or (pt_cmpR op_ge (pe_ix ix_tup (pv 4) pe_int (fun _ _ => rfl)) (pe_callB q_len (by rfl) T.z_len (by decide +kernel) (pa_cons (pv 1) pa_nil)) (nomark _)) (pw_or1 (pt_cmp (pc_din (Nat.lt_of_le_of_lt (Nat.add_le_add_left (by decide) _) hr.units) (pe_ix ix_tup (pv 4) pe_int (fun _ _ => rfl)) (pv 3)) (by rfl))))))) (pss_one (ps_ret pe_bl)) pss_nil)
      (pss_cons (ps_for PassesOwn.never rfl (pi_range1 (by rfl) T.z_range (pa_cons pe_int pa_nil)) (pg_name (i := 6) sc_law_turn_right.nd rfl (Or.inl rfl))
      (pss_cons (ps_set (i := 7) sc_law_turn_right.nd rfl (Or.inl rfl) (pe_callTy q_dictD (by rfl) T.z_dict (by decide +kernel) (pa_cons (pv 3) pa_nil)))
      (pss_cons (ps_dput (Nat.lt_of_le_of_lt (Nat.add_le_add_left (by decide) _) hr.units) (pv 7) (pe_ix ix_tup (pv 4) pe_int (fun _ _ => rfl)) (pv 6) (by rfl))
      (pss_one (ps_if (pt_not (pt_val (pe_call (okd_law_turn_right T d) (hr.mono (by first | decide | omega | (simp only [Nat.add_eq]; omega))) (by rfl) T.g_law_turn_right T.F_law_turn_right.kp T.b_law_turn_right .nil pass0 (pa_cons (pv 0) (pa_cons (pv 1) (pa_cons (pv 2) (pa_cons (pv 7) (pa_cons (pe_ix ix_tup (pv 4) (pe_op op_add pe_int (pv 6)) (fun _ _ => rfl)) pa_nil)))))))) (pss_one (ps_ret pe_bl)) pss_nil)))))
      (pss_one (ps_ret pe_bl)))))), pure_law_turn_right h⟩


def pr_law_net (K : PySem.W.Frag) (v0 : V) (H : Hp) (Q : VK) (_ : XK) : Prop := ∃ (pu : Addr) (k : Int), v0 = .ref pu ∧ Le H pu k ∧ k < 900000 ∧
  ∀ v (N : Net) k' H', Le H' pu k' → k' ≤ k + 20 → Same (hid [pu] H) (hid [pu] H') → Dp K (hid [pu] H') v N.d → N.ok → Q v H'
def t_law_net (K : PySem.W.Frag) : TS :=
  (tSeq (tAsg (tOp xAdd (tC (.int 2)) (tCall (sp_law_draw K) [] E0 (tCons (tVar 0) (tCons (tC (.int 6)) tNil)))) (gName 1))
    (tSeq (tAsg (tCall (sp_law_draw K) [] E0 (tCons (tVar 0) (tCons (tC (.int 3)) tNil))) (gName 2))
    (tSeq (tIfS (tTest (tOp rEq (tVar 2) (tC (.int 0)))) (tRet (tTup (tCons (tC (.str (Str.ofString "line"))) (tCons (tVar 1) tNil)))) tNext)
    (tSeq (tIfS (tTest (tOp rEq (tVar 2) (tC (.int 1)))) (tRet (tTup (tCons (tC (.str (Str.ofString "ring"))) (tCons (tOp xAdd (tVar 1) (tC (.int 1))) tNil)))) tNext)
    (tRet (tTup (tCons (tC (.str (Str.ofString "tree"))) (tCons (tLc (iRng1 (tCons (tOp xSub (tVar 1) (tC (.int 1))) tNil)) (gName 3) tYes (tCall (sp_law_draw K) [] E0 (tCons (tVar 0) (tCons (tOp xAdd (tVar 3) (tC (.int 1))) tNil))) [3]) tNil))))))))
theorem tree_more {us : List Int} {i : Nat} {r : Int} (h : ∀ j : Nat, j < us.length → 0 ≤ us.getD j 0 ∧ us.getD j 0 ≤ j) (hl : us.length = i) (r0 : 0 ≤ r) (r1 : r < i + 1) : ∀ j : Nat, j < (us ++ [r]).length → 0 ≤ (us ++ [r]).getD j 0 ∧ (us ++ [r]).getD j 0 ≤ j := by
  intro j hj
  by_cases c : j < us.length
  · have e : (us ++ [r]).getD j 0 = us.getD j 0 := by rw [List.getD_eq_getElem?_getD, List.getD_eq_getElem?_getD, List.getElem?_append_left c]
    rw [e]; exact h j c
  · have hj' : j = us.length := by simp at hj; omega
    subst hj'
    have e : (us ++ [r]).getD us.length 0 = r := by rw [List.getD_eq_getElem?_getD, List.getElem?_append_right (Nat.le_refl _)]; simp
    rw [e]; omega
theorem pure_law_net {v0 : V} {H : Hp} {Q : VK} {E : XK} (h : pr_law_net K v0 H Q E) : t_law_net K ⟨fun _ H' => Q .non H', Q, fun _ _ => False, fun _ _ => False⟩ [some v0, none, none, none] H := by
  obtain ⟨pu, k, rfl, hL, hk, q⟩ := h
  unfold t_law_net
  wtm_at "s"
  refine ⟨_, _, rfl, pu, k, 6, rfl, rfl, hL, by omega, by decide, by decide, fun m H1 m0 m1 L1 S1 => ?_⟩
  wtm_at "s"
  refine ⟨_, _, rfl, pu, k + 1, 3, rfl, rfl, L1, by omega, by decide, by decide, fun r H2 r0 r1 L2 S2 => ?_⟩
  have S02 := S1.trans S2
  clear S1 S2 L1 hL
  wtm_at "s"
  refine k_it (fun c1 => ?_) (fun c1 => ?_)
  · wtm_at "s"
    refine kTp L2 (by simp) (fun p H3 np s3 e3 => ?_)
    have np' := L2.fresh np
    exact q (.ref p) (.line (2 + m)) _ _ (L2.same s3) (by omega) (S02.trans (hid_mono s3)) (.tup (stp (e3)) (.cons (.str _) (.cons (.int _) .nil))) ⟨by omega, by omega⟩
  wtm_at "s"
  refine k_it (fun c2 => ?_) (fun c2 => ?_)
  · wtm_at "s"
    refine kTp L2 (by simp) (fun p H3 np s3 e3 => ?_)
    have np' := L2.fresh np
    exact q (.ref p) (.ring (2 + m + 1)) _ _ (L2.same s3) (by omega) (S02.trans (hid_mono s3)) (.tup (stp (e3)) (.cons (.str _) (.cons (.int _) .nil))) ⟨by omega, by omega⟩
  wtm_at "s"
  intro D nD
  have nD' := L2.fresh nD
  have fr : hid [pu] H2 D = none := by rw [hid_ne nD']; exact nD
  refine lc_range (fun t H => Le H pu (k + 2 + t) ∧ Same (hid [pu] H2) (hid [pu] H) ∧ ∃ us, H D = some (.lst (List.map V.int us)) ∧ us.length = t ∧ ∀ j : Nat, j < us.length → 0 ≤ us.getD j 0 ∧ us.getD j 0 ≤ j) ⟨by
    have := L2.upd (o := .lst []) nD'
    rw [show k + 2 + ((0 : Nat) : Int) = k + 1 + 1 by omega]; exact this, same_hid_new nD, [], upd_same, rfl, fun j hj => by simp at hj⟩ ?_ ?_
  · rintro t H5 ht ⟨Lt, St, us, hD, hl, hok⟩
    wtm_at "s"
    refine ⟨_, _, rfl, pu, k + 2 + t, 0 + (t : Int) + 1, rfl, rfl, Lt, by omega, by omega, by omega, fun r H6 r0 r1 L6 S6 => ?_⟩
    refine ⟨_, keeps S6 hD nD', szl (by rw [List.length_map]; omega), ?_, ?_, us ++ [r], ?_, by simp [hl], tree_more hok hl r0 (by omega)⟩
    · rw [show k + 2 + ((t + 1 : Nat) : Int) = k + 2 + t + 1 by omega]; exact L6.upd nD'
    · exact same_hid_mut (St.trans S6) fr
    · rw [upd_same, List.map_append]; rfl
  · rintro H5 ⟨Lt, St, us, hD, hl, hok⟩
    wtm_at "s"
    refine kTp Lt (by simp) (fun p H6 np s6 e6 => ?_)
    have np' := Lt.fresh np
    refine q (.ref p) (.tree us) _ _ (Lt.same s6) (by omega) (S02.trans (St.trans (hid_mono s6))) (.tup (xs := [.str (Str.ofString "tree"), .ref D]) (stp (e6)) (.cons (.str _) (.cons (dp_of_ints (sl ?_)) .nil))) ⟨by omega, by omega, hok⟩
    rw [hid_ne nD']; exact s6 _ _ hD
abbrev sp_law_net (K : PySem.W.Frag) : Sp := fun vs H Q E => ∃ v0, vs = [v0] ∧ pr_law_net K v0 H Q E
theorem ok_law_net (T : Txt K mg A) : FnOk P w K mg base CX0 3 A.a_law_net A.d_law_net ["_law_left_here"] (sp_law_net K) := by
  refine T.F_law_net.ok sc_law_net (fun vs H Q E h => by obtain ⟨v0, rfl, _⟩ := h; rfl) (fun cdv A0 outer s H vs Q E hr h => ?_)
  obtain ⟨v0, rfl, h⟩ := h
  exact ⟨t_law_net K, (pss_cons (ps_set (i := 1) sc_law_net.nd rfl (Or.inl rfl) (pe_op op_add pe_int (pe_call (ok_law_draw T) (hr.mono (by decide)) (by rfl) T.g_law_draw T.F_law_draw.kp T.b_law_draw .nil pass0 (pa_cons (pv 0) (pa_cons pe_int pa_nil)))))
      (pss_cons (ps_set (i := 2) sc_law_net.nd rfl (Or.inl rfl) (pe_call (ok_law_draw T) (hr.mono (by decide)) (by rfl) T.g_law_draw T.F_law_draw.kp T.b_law_draw .nil pass0 (pa_cons (pv 0) (pa_cons pe_int pa_nil))))
      (pss_cons (ps_if (pt_cmpR op_eq (pv 2) pe_int (nomark _)) (pss_one (ps_ret (pe_tup (pa_cons pe_str (pa_cons (pv 1) pa_nil))))) pss_nil)
      (pss_cons (ps_if (pt_cmpR op_eq (pv 2) pe_int (nomark _)) (pss_one (ps_ret (pe_tup (pa_cons pe_str (pa_cons (pe_op op_add (pv 1) pe_int) pa_nil))))) pss_nil)
      (pss_one (ps_ret (pe_tup (pa_cons pe_str (pa_cons (pe_lc (own := [("_law_k", 3)]) (by rfl) sc_law_net.nd (pi_range1 (by rfl) T.z_range (pa_cons (pe_op op_sub (pv 1) pe_int) pa_nil)) (blkOk_by (own := [("_law_k", 3)]) (N := ["_law_left_here", "_law_many", "_law_way", "_law_k"]) (sc := defScope s_law_net) (by decide +kernel)) (fun _ _ _ _ _ => (pg_name (i := 3) sc_law_net.nd rfl (Or.inl rfl))) (fun _ _ _ _ _ => pts_nil) (fun _ _ _ _ _ => (pe_call (ok_law_draw T) (hr.mono (by decide)) (by rfl) T.g_law_draw T.F_law_draw.kp T.b_law_draw .nil pass0 (pa_cons (pv 0) (pa_cons (pe_op op_add (pv 3) pe_int) pa_nil))))) pa_nil))))))))), pure_law_net h⟩


def pr_law_ways (K : PySem.W.Frag) (v0 v1 v2 : V) (H : Hp) (Q : VK) (_ : XK) : Prop := ∃ (pu : Addr) (k : Int) (N : Net) (z : Nat), v0 = .ref pu ∧ v2 = .int (z : Nat) ∧ Le H pu k ∧ k < 800000 ∧ Dp K (hid [pu] H) v1 N.d ∧ N.ok ∧ z ≤ 20 ∧
  ∀ p ws k' H', H p = none → Le H' pu k' → k' ≤ k + 100 → Same (hid [pu] H) (hid [pu] H') → Dp K (hid [pu] H') (.ref p) (dPairs ws) → ws.length = z → (∀ w ∈ ws, isWay N w.1 w.2) → Q (.ref p) H'
def t_law_ways (K : PySem.W.Frag) : TS :=
  (tSeq (tAsg (tLst tNil) (gName 3))
    (tSeq (tFor (iRng1 (tCons (tVar 2) tNil)) (gName 4)
      (tIfS (tAnd (tTest (tOp (rNeD K) (tVar 3) (tLst tNil))) (tTest (tOp rEq (tCall (sp_law_draw K) [] E0 (tCons (tVar 0) (tCons (tC (.int 2)) tNil))) (tC (.int 0))))) (tDrop (tBM K "list" rAppend (tVar 3) (tCons (tOp (rIxL K) (tVar 3) (tCall (sp_law_draw K) [] E0 (tCons (tVar 0) (tCons (tCB (rLenX K) (tCons (tVar 3) tNil)) tNil)))) tNil))) (tSeq (tAsg (tCall (sp_law_draw K) [] E0 (tCons (tVar 0) (tCons (tCall (sp_law_places K) [] E0 (tCons (tVar 1) tNil)) tNil))) (gName 5))
    (tSeq (tAsg (tCall (sp_law_draw K) [] E0 (tCons (tVar 0) (tCons (tOp xSub (tCall (sp_law_places K) [] E0 (tCons (tVar 1) tNil)) (tC (.int 1))) tNil))) (gName 6))
    (tDrop (tBM K "list" rAppend (tVar 3) (tCons (tTup (tCons (tVar 5) (tCons (tOp xAdd (tVar 6) (tCB rIntOf (tCons (tOp xGe (tVar 6) (tVar 5)) tNil))) tNil))) tNil)))))))
    (tRet (tVar 3))))
theorem pure_law_ways {v0 v1 v2 : V} {H : Hp} {Q : VK} {E : XK} (hh : pr_law_ways K v0 v1 v2 H Q E) : t_law_ways K ⟨fun _ H' => Q .non H', Q, fun _ _ => False, fun _ _ => False⟩ [some v0, some v1, some v2, none, none, none, none] H := by
  obtain ⟨pu, k, N, z, rfl, rfl, L, k1, dN, ok, hz, q⟩ := hh
  have pl2 : 2 ≤ N.places ∧ N.places ≤ 60 := by
    cases N with
    | line n => exact ok
    | ring n => exact ⟨by have := ok.1; show 2 ≤ n; omega, ok.2⟩
    | tree ps => exact ⟨by have := ok.1; show 2 ≤ (ps.length : Int) + 1; omega, by have := ok.2.1; show (ps.length : Int) + 1 ≤ 60; omega⟩
  unfold t_law_ways
  wtm_at "s"
  refine kL (by simp) (fun wl H1 nwl s1 e1 => ?_)
  have L1 := L.same s1
  have nwl' := L.fresh nwl
  have nwlh : hid [pu] H wl = none := by rw [hid_ne nwl']; exact nwl
  wtm_at "s"
  refine forR (fun i σ' H' => ∃ ys ws k4 k5 k6 kk, σ' = [some (.ref pu), some v1, some (.int (z : Nat)), some (.ref wl), k4, k5, k6] ∧ Le H' pu kk ∧ kk ≤ k + 3 * (i : Nat) ∧ Same (hid [pu] H) (hid [pu] H') ∧ H' wl = some (.lst ys) ∧ DpAll K (hid [pu, wl] H') ys (ws.map dPair) ∧ ws.length = i ∧ ∀ w ∈ ws, isWay N w.1 w.2) ⟨[], [], _, _, _, _, rfl, L1, by omega, hid_mono s1, e1, .nil, rfl, fun w hw => by cases hw⟩ ?_ ?_
  · clear L1 e1 s1
    rintro i σ' H3 hi ⟨ys, ws, k4, k5, k6, kk, rfl, L3, hkk, S3, e3, d3, lw, hw⟩
    have hi20 : i < 20 := by omega
    have ly : ys.length = ws.length := by rw [dpa_len d3, List.length_map]
    wtm_at "s"
    refine kL (by simp) (fun l4 H4 nl4 s4 e4 => ?_)
    have L4 := L3.same s4
    have e4w := s4 _ _ e3
    have d4 : DpAll K (hid [pu, wl] H4) ys (ws.map dPair) := dpa_same (hid_mono s4) d3
    refine k_neD (n := 2) (.lst (sl e4w) (dpa_same (hid_same _ _) d4)) (dp_of_ints (ns := []) (sl e4)) (Cm.sh_pairs ws) (sh_ints _) (by decide) ?_
    have S34 : Same (hid [pu] H) (hid [pu] H4) := S3.trans (hid_mono s4)
    have dN4 : Dp K H4 v1 N.d := dp_same (hid_same _ _) (dp_same S34 dN)
    clear S3 L3 e3 e4 d3 s4 nl4
    have more : ∀ (pv : Addr) (w : Int × Int) (kk' : Int) (H5 : Hp), Same (hid [pu] H) (hid [pu] H5) → Le H5 pu kk' → H5 wl = some (.lst ys) → DpAll K (hid [pu, wl] H5) ys (ws.map dPair) → Dp K (hid [pu, wl] H5) (.ref pv) (dPair w) → isWay N w.1 w.2 →
        Le (upd H5 wl (.lst (ys ++ [.ref pv]))) pu kk' ∧ Same (hid [pu] H) (hid [pu] (upd H5 wl (.lst (ys ++ [.ref pv])))) ∧ upd H5 wl (.lst (ys ++ [.ref pv])) wl = some (.lst (ys ++ [.ref pv])) ∧ DpAll K (hid [pu, wl] (upd H5 wl (.lst (ys ++ [.ref pv])))) (ys ++ [.ref pv]) ((ws ++ [w]).map dPair) ∧ (ws ++ [w]).length = i + 1 ∧ ∀ v ∈ ws ++ [w], isWay N v.1 v.2 := fun pv w kk' H5 S5 L5 e5 d5 dw hiw => by
      refine ⟨L5.upd nwl', same_hid_mut S5 nwlh, upd_same, ?_, by simp [lw], fun v hv => ?_⟩
      · rw [hid_upd (by simp), List.map_append]
        exact dpa_app d5 (.cons dw .nil)
      · rcases List.mem_append.mp hv with z | z
        · exact hw v z
        · rw [List.mem_singleton.mp z]; exact hiw
    cases ws with
    | nil =>
      rw [show PyData.eqv (dPairs []) (dInts []) = true from by decide +kernel]
      wtm_at "s"
      refine ⟨_, rfl, N, dp_same (hid_same _ _) (dp_same S34 dN), ?_⟩
      wtm_at "s"
      refine ⟨_, _, rfl, pu, _, N.places, rfl, rfl, L4, by omega, by omega, by omega, fun x H6 x0 x1 L6 S6 => ?_⟩
      have SH6 := S34.trans S6
      wtm_at "s"
      refine ⟨_, rfl, N, dp_same (hid_same _ _) (dp_same SH6 dN), ?_⟩
      wtm_at "s"
      refine ⟨_, _, rfl, pu, _, N.places - 1, rfl, rfl, L6, by omega, by omega, by omega, fun y H7 y0 y1 L7 S7 => ?_⟩
      have SH7 := SH6.trans S7
      have e7 := keeps (S6.trans S7) e4w nwl'
      have d7 := dpa_same (hid_more (S6.trans S7) (S' := [pu, wl]) (by simp)) d4
      wtm_at "s"
      refine k_tyL (sl e7) ?_
      wtm_at "s"
      refine kT (by simp) (fun pt H8 npt s8 e8 => ?_)
      wtm_at "s"
      have hv : 0 ≤ y + (if decide (x ≤ y) = true then 1 else 0) ∧ y + (if decide (x ≤ y) = true then 1 else 0) < N.places ∧ x ≠ y + (if decide (x ≤ y) = true then 1 else 0) := by
        by_cases c : x ≤ y
        · rw [decide_eq_true c, if_pos rfl]; omega
        · rw [decide_eq_false c, if_neg (by decide)]; omega
      generalize y + (if decide (x ≤ y) = true then 1 else 0) = v at hv e8 ⊢
      have w1 : pt ∉ [pu, wl] := not_in2 (fun z => L7.fresh npt (by rw [z]; simp)) (fun z => by rw [z, e7] at npt; cases npt)
      refine k_append (s8 _ _ e7) (by omega) ?_
      obtain ⟨m1, m2, m3, m4, m5, m6⟩ := more pt (x, v) _ H8 (SH7.trans (hid_mono s8)) (L7.same s8) (s8 _ _ e7) (dpa_same (hid_mono s8) d7) (dp_of_pair (stp (by rw [hid_ne w1]; exact e8))) ⟨hv.2.2, x0, hv.1, x1, hv.2.1⟩
      exact ⟨_, _, _, _, _, _, rfl, m1, by omega, m2, m3, m4, m5, m6⟩
    | cons w0 wr =>
      rw [show PyData.eqv (dPairs (w0 :: wr)) (dInts []) = false from rfl]
      wtm_at "s"
      refine ⟨_, _, rfl, pu, kk, 2, rfl, rfl, L4, by omega, by decide, by decide, fun r H5 r0 r1 L5 S5 => ?_⟩
      have S35 := S34.trans S5
      have e5 := keeps S5 e4w nwl'
      have d5 := dpa_same (hid_more S5 (S' := [pu, wl]) (by simp)) d4
      wtm_at "s"
      refine k_it (fun c1 => ?_) (fun c1 => ?_)
      · wtm_at "s"
        refine k_tyL (sl e5) ?_
        wtm_at "s"
        refine ⟨_, _, rfl, pu, kk + 1, (ys.length : Nat), rfl, rfl, L5, by omega, by rw [ly, List.length_cons]; omega, by omega, fun a H6 a0 a1 L6 S6 => ?_⟩
        have S36 := S35.trans S6
        have e6 := keeps S6 e5 nwl'
        have d6 := dpa_same (hid_more S6 (S' := [pu, wl]) (by simp)) d5
        obtain ⟨j, rfl⟩ : ∃ j : Nat, a = j := ⟨a.toNat, by omega⟩
        obtain ⟨v, hv⟩ : ∃ v, ys[j]? = some v := ⟨ys[j]'(by omega), List.getElem?_eq_getElem (by omega)⟩
        obtain ⟨w, cw, hw1, rfl, hcw⟩ := dpairs_get d6 hv
        wtm_at "s"
        refine k_ixL (sl e6) (atI_nat hv) ?_
        wtm_at "s"
        refine k_append e6 (by omega) ?_
        obtain ⟨m1, m2, m3, m4, m5, m6⟩ := more cw w _ H6 S36 L6 e6 d6 (dp_of_pair hcw) (hw w (List.mem_of_getElem? hw1))
        exact ⟨_, _, _, _, _, _, rfl, m1, by omega, m2, m3, m4, m5, m6⟩
      · wtm_at "s"
        refine ⟨_, rfl, N, dp_same (hid_same _ _) (dp_same S35 dN), ?_⟩
        wtm_at "s"
        refine ⟨_, _, rfl, pu, _, N.places, rfl, rfl, L5, by omega, by omega, by omega, fun x H6 x0 x1 L6 S6 => ?_⟩
        have SH6 := S35.trans S6
        wtm_at "s"
        refine ⟨_, rfl, N, dp_same (hid_same _ _) (dp_same SH6 dN), ?_⟩
        wtm_at "s"
        refine ⟨_, _, rfl, pu, _, N.places - 1, rfl, rfl, L6, by omega, by omega, by omega, fun y H7 y0 y1 L7 S7 => ?_⟩
        have SH7 := SH6.trans S7
        have e7 := keeps (S6.trans S7) e5 nwl'
        have d7 := dpa_same (hid_more (S6.trans S7) (S' := [pu, wl]) (by simp)) d5
        wtm_at "s"
        refine k_tyL (sl e7) ?_
        wtm_at "s"
        refine kT (by simp) (fun pt H8 npt s8 e8 => ?_)
        wtm_at "s"
        have hv : 0 ≤ y + (if decide (x ≤ y) = true then 1 else 0) ∧ y + (if decide (x ≤ y) = true then 1 else 0) < N.places ∧ x ≠ y + (if decide (x ≤ y) = true then 1 else 0) := by
          by_cases c : x ≤ y
          · rw [decide_eq_true c, if_pos rfl]; omega
          · rw [decide_eq_false c, if_neg (by decide)]; omega
        generalize y + (if decide (x ≤ y) = true then 1 else 0) = v at hv e8 ⊢
        have w1 : pt ∉ [pu, wl] := not_in2 (fun z => L7.fresh npt (by rw [z]; simp)) (fun z => by rw [z, e7] at npt; cases npt)
        refine k_append (s8 _ _ e7) (by omega) ?_
        obtain ⟨m1, m2, m3, m4, m5, m6⟩ := more pt (x, v) _ H8 (SH7.trans (hid_mono s8)) (L7.same s8) (s8 _ _ e7) (dpa_same (hid_mono s8) d7) (dp_of_pair (stp (by rw [hid_ne w1]; exact e8))) ⟨hv.2.2, x0, hv.1, x1, hv.2.1⟩
        exact ⟨_, _, _, _, _, _, rfl, m1, by omega, m2, m3, m4, m5, m6⟩
  · rintro σ' H3 ⟨ys, ws, k4, k5, k6, kk, rfl, L3, hkk, S3, e3, d3, lw, hw⟩
    wtm_at "s"
    exact q wl ws kk H3 nwl L3 (by omega) S3 (.lst (sl (by rw [hid_ne nwl']; exact e3)) (dpa_same (hid_sub (by simp)) d3)) (by omega) hw
abbrev sp_law_ways (K : PySem.W.Frag) : Sp := fun vs H Q E => ∃ v0 v1 v2, vs = [v0, v1, v2] ∧ pr_law_ways K v0 v1 v2 H Q E
theorem ok_law_ways (T : Txt K mg A) : FnOk P w K mg base CX0 3 A.a_law_ways A.d_law_ways ["_law_left_here", "_law_net_here", "_law_many"] (sp_law_ways K) := by
  refine T.F_law_ways.ok sc_law_ways (fun vs H Q E h => by obtain ⟨v0, v1, v2, rfl, _⟩ := h; rfl) (fun cdv A0 outer s H vs Q E hr h => ?_)
  obtain ⟨v0, v1, v2, rfl, h⟩ := h
  exact ⟨t_law_ways K, (pss_cons (ps_set (i := 3) sc_law_ways.nd rfl (Or.inl rfl) (pe_lst pa_nil))
      (pss_cons (ps_for PassesOwn.never rfl (pi_range1 (by rfl) T.z_range (pa_cons (pv 2) pa_nil)) (pg_name (i := 4) sc_law_ways.nd rfl (Or.inl rfl))
      (pss_one (ps_if (PW.pt (pw_and (pt_cmpR (op_neD hr.units) (pv 3) (pe_lst pa_nil) (nomark _)) (pw_and1 (pt_cmpR op_eq (pe_call (ok_law_draw T) (hr.mono (by decide)) (by rfl) T.g_law_draw T.F_law_draw.kp T.b_law_draw .nil pass0 (pa_cons (pv 0) (pa_cons pe_int pa_nil))) pe_int (nomark _))))) (pss_one (ps_expr (pe_bm PySem.F.plainAttrs_list PySem.F.slot_list_append PySem.F.type_list_append mt_append (pv 3) (pa_cons (pe_ix ix_list (pv 3) (pe_call (ok_law_draw T) (hr.mono (by decide)) (by rfl) T.g_law_draw T.F_law_draw.kp T.b_law_draw .nil pass0 (pa_cons (pv 0) (pa_cons (pe_callB q_len (by rfl) T.z_len (by decide +kernel) (pa_cons (pv 3) pa_nil)) pa_nil))) (fun _ _ => rfl)) pa_nil)))) (pss_cons (ps_set (i := 5) sc_law_ways.nd rfl (Or.inl rfl) (pe_call (ok_law_draw T) (hr.mono (by decide)) (by rfl) T.g_law_draw T.F_law_draw.kp T.b_law_draw .nil pass0 (pa_cons (pv 0) (pa_cons (pe_call (ok_law_places T) (hr.mono (by decide)) (by rfl) T.g_law_places T.F_law_places.kp T.b_law_places .nil pass0 (pa_cons (pv 1) pa_nil)) pa_nil))))
      (pss_cons (ps_set (i := 6) sc_law_ways.nd rfl (Or.inl rfl) (pe_call (ok_law_draw T) (hr.mono (by decide)) (by rfl) T.g_law_draw T.F_law_draw.kp T.b_law_draw .nil pass0 (pa_cons (pv 0) (pa_cons (pe_op op_sub (pe_call (ok_law_places T) (hr.mono (by decide)) (by rfl) T.g_law_places T.F_law_places.kp T.b_law_places .nil pass0 (pa_cons (pv 1) pa_nil)) pe_int) pa_nil))))
      (pss_one (ps_expr (pe_bm PySem.F.plainAttrs_list PySem.F.slot_list_append PySem.F.type_list_append mt_append (pv 3) (pa_cons (pe_tup (pa_cons (pv 5) (pa_cons (pe_op op_add (pv 6) (pe_callTy q_intB (by rfl) T.z_int (by decide +kernel) (pa_cons (pe_cmpR op_ge (pv 6) (pv 5) (nomark _)) pa_nil))) pa_nil))) pa_nil)))))))))
      (pss_one (ps_ret (pv 3))))), pure_law_ways h⟩


/-- a number that is not there -/
theorem missing58 : ∀ (n : Nat) (l : List Int), l.length < n → ∃ j : Nat, j < n ∧ (j : Int) ∉ l
  | 0, _, h => by omega
  | n + 1, l, h => by
    by_cases c : (n : Int) ∈ l
    · obtain ⟨j, h1, h2⟩ := missing58 n (l.erase n) (by rw [List.length_erase_of_mem c]; have := List.length_pos_of_mem c; omega)
      exact ⟨j, by omega, fun z => h2 ((List.mem_erase_of_ne (by omega)).mpr z)⟩
    · exact ⟨n, by omega, c⟩
theorem few_before {l : List Int} {i : Nat} (nd : l.Nodup) (h0 : ∀ x ∈ l, 0 ≤ x) (f : Int → Int) : (l.filterMap fun o => if o < (i : Int) then some (f o) else none).length ≤ i := by
  have e : (l.filterMap fun o => if o < (i : Int) then some (f o) else none) = (l.filter fun o => decide (o < (i : Int))).map f := by
    induction l with
    | nil => rfl
    | cons x l ih =>
      rw [List.filterMap_cons, List.filter_cons]
      have := ih (List.nodup_cons.mp nd).2 (fun y hy => h0 y (List.mem_cons_of_mem _ hy))
      by_cases c : x < (i : Int)
      · rw [if_pos c, decide_eq_true c]; simp only [if_true, List.map_cons, this]
      · rw [if_neg c, decide_eq_false c]; simp only [Bool.false_eq_true, if_false, this]
  rw [e, List.length_map]
  have nd2 : (l.filter fun o => decide (o < (i : Int))).Nodup := List.Pairwise.sublist List.filter_sublist nd
  have := nodup_lenI (m := (List.range i).map Int.ofNat) nd2 (fun x hx => by
    obtain ⟨h1, h2⟩ := List.mem_filter.mp hx
    have h2 : x < (i : Int) := of_decide_eq_true h2
    have := h0 x h1
    exact List.mem_map.mpr ⟨x.toNat, List.mem_range.mpr (by omega), by show ((x.toNat : Nat) : Int) = x; omega⟩)
  simpa using this
def pr_law_hued (K : PySem.W.Frag) (v0 : V) (H : Hp) (Q : VK) (_ : XK) : Prop := ∃ (N : Net) (ws : List (Int × Int)), Dp K H v0 (.list ((meetF N ws).map dInts)) ∧ ws.length ≤ 100 ∧
  ∀ p hs H', H p = none → Same H H' → H' p = some (.lst (List.map V.int hs)) → hs.length = ws.length → (∀ u ∈ hs, 0 ≤ u ∧ u < 1000) → Q (.ref p) H'
def t_law_hued (K : PySem.W.Frag) : TS :=
  (tSeq (tAsg (tLst tNil) (gName 1))
    (tSeq (tFor (iRng1 (tCons (tCB (rLenX K) (tCons (tVar 0) tNil)) tNil)) (gName 2)
      (tSeq (tAsg (tLc (iList K (tOp (rIxL K) (tVar 0) (tVar 2))) (gName 4) (tTest (tOp xLt (tVar 4) (tVar 2))) (tOp (rIxL K) (tVar 1) (tVar 4)) [4]) (gName 3))
    (tDrop (tBM K "list" rAppend (tVar 1) (tCons (tOp (rIxL K) (tLc (iRng1 (tCons (tOp xAdd (tVar 2) (tC (.int 1))) tNil)) (gName 5) (tTest (tOp (rIn K true) (tVar 5) (tVar 3))) (tVar 5) [5]) (tC (.int 0))) tNil)))))
    (tRet (tVar 1))))
theorem pure_law_hued {v0 : V} {H : Hp} {Q : VK} {E : XK} (h : pr_law_hued K v0 H Q E) : t_law_hued K ⟨fun _ H' => Q .non H', Q, fun _ _ => False, fun _ _ => False⟩ [some v0, none, none, none, none, none] H := by
  obtain ⟨N, ws, dM, hz, q⟩ := h
  have mlen : (meetF N ws).length = ws.length := meetF_len N ws
  obtain ⟨b, ms, rfl, hb, dms⟩ := dp_list dM
  have lms : ms.length = ws.length := by rw [dpa_len dms, List.length_map, mlen]
  unfold t_law_hued
  wtm_at "s"
  refine kL (by simp) (fun nb H4 nnb s4 e4 => ?_)
  have hb4 := s4.seq hb
  wtm_at "s"
  refine forR (fun i σ' H' => Same H H' ∧ (∃ us, H' nb = some (.lst (List.map V.int us)) ∧ us.length = i ∧ ∀ u ∈ us, 0 ≤ u ∧ u < 1000) ∧ ∃ k5 k7, σ' = [some (.ref b), some (.ref nb), k5, k7, none, none])
      ⟨s4, ⟨[], e4, rfl, fun u hu => by cases hu⟩, _, _, rfl⟩ ?_ ?_
  · rintro i σ' H5 hi ⟨s5, ⟨us, e5, lu, gr⟩, k5', k7, rfl⟩
    have hi' : i < ws.length := by omega
    obtain ⟨row, hrow, hrs⟩ := dp_row hb dms (show i < (meetF N ws).length by rw [mlen]; exact hi')
    have nd : ((meetF N ws).getD i []).Nodup := by
      rw [meetF_get hi']
      exact (keepI_srt _ _).imp fun h => by omega
    have rg := (meetF_adj N ws).rng i
    have lrow : ((meetF N ws).getD i []).length ≤ 100 := by
      have hm : i < (meetF N ws).length := by rw [mlen]; exact hi'
      have t9 := (meetF_adj N ws).len _ (List.getElem_mem hm)
      have e9 : (meetF N ws).getD i [] = (meetF N ws)[i] := by rw [List.getD_eq_getElem?_getD, List.getElem?_eq_getElem hm]; rfl
      rw [e9]
      omega
    wtm_at "s"
    refine k_ixL (s5.seq hb) (by rw [Int.zero_add]; exact atI_nat hrow) ?_
    wtm_at "s"
    refine lc_pure (s5.seq hrs) ((meetF N ws).getD i []) (by simp) (by omega) (fun o => (if o < (i : Int) then some (us.getD o.toNat 0) else none).map V.int) ?_ (fun tk H6 ntk s6 e6 => ?_)
    · intro j x o H' hx ho sm R R0 g1 g2
      rw [List.getElem?_map, ho] at hx
      cases hx
      have rg' := rg o (List.mem_of_getElem? ho)
      have e5' := sm _ _ e5
      wtm_at "s"
      refine k_it (fun c => ?_) (fun c => ?_)
      · wtm_at "s"
        refine k_ixI (sl e5') rg'.1 (by omega) ?_
        exact g1 _ (by rw [if_pos (by omega)]; rfl)
      · exact g2 (by rw [if_neg (by omega)]; rfl)
    · rw [← List.map_filterMap] at e6
      have lt := few_before (i := i) nd (fun x hx => (rg x hx).1) (fun o => us.getD o.toNat 0)
      generalize (((meetF N ws).getD i []).filterMap fun o => if o < (i : Int) then some (us.getD o.toNat 0) else none) = ts at e6 lt
      wtm_at "s"
      refine k_tyL (sl (at_same e5 s6)) ?_
      wtm_at "s"
      refine lc_pureR (by omega) (fun j => if (fun j : Nat => !decide ((j : Int) ∈ ts)) j = true then some (V.int (0 + (j : Nat))) else none) ?_ (fun fr H7 nfr s7 e7 => ?_)
      · intro j H' hj sm R R0 h1 h2
        have e6' := sm _ _ e6
        wtm_at "s"
        rw [Int.zero_add] at h1 ⊢
        refine k_itn (fun c => ?_) (fun c => ?_)
        · wtm_at "s"
          exact h1 _ (by rw [if_pos (by simp [c])])
        · exact h2 (by rw [if_neg (by simp [c])])
      · rw [keepI_fm] at e7
        obtain ⟨j0, j1, j2⟩ := missing58 (i + 1) ts (by omega)
        have hn : (0 + (i : Int) + 1).toNat = i + 1 := by omega
        rw [hn] at e7
        have hmem : (j0 : Int) ∈ keepI (i + 1) (fun j : Nat => !decide ((j : Int) ∈ ts)) := keepI_mem.mpr ⟨by omega, by omega, by simp [j2]⟩
        cases hk0 : keepI (i + 1) (fun j : Nat => !decide ((j : Int) ∈ ts)) with
        | nil => rw [hk0] at hmem; cases hmem
        | cons x r =>
          have hx : x ∈ keepI (i + 1) (fun j : Nat => !decide ((j : Int) ∈ ts)) := by rw [hk0]; simp
          obtain ⟨x0, x1, x2⟩ := keepI_mem.mp hx
          rw [hk0] at e7
          wtm_at "s"
          refine k_ixL (sl e7) (v := .int x) (atI_nat (j := 0) rfl) ?_
          wtm_at "s"
          refine k_append (at_same e5 (s6.trans s7)) (by simp; omega) ?_
          exact ⟨same_mut (s5.trans (s6.trans s7)) nnb, ⟨us ++ [x], by rw [upd_same, List.map_append]; rfl, by simp [lu], fun u hu => by
            rcases List.mem_append.mp hu with z | z
            · exact gr u z
            · rw [List.mem_singleton.mp z]; omega⟩, _, _, rfl⟩
  · rintro σ' H5 ⟨s5, ⟨us, e5, lu, gr⟩, k5', k7, rfl⟩
    wtm_at "s"
    exact q nb us H5 nnb s5 e5 (by omega) gr
abbrev sp_law_hued (K : PySem.W.Frag) : Sp := fun vs H Q E => ∃ v0, vs = [v0] ∧ pr_law_hued K v0 H Q E
theorem ok_law_hued (T : Txt K mg A) : FnOk P w K mg base CX0 1 A.a_law_hued A.d_law_hued ["_law_meets_here"] (sp_law_hued K) := by
  refine T.F_law_hued.ok sc_law_hued (fun vs H Q E h => by obtain ⟨v0, rfl, _⟩ := h; rfl) (fun cdv A0 outer s H vs Q E hr h => ?_)
  obtain ⟨v0, rfl, h⟩ := h
  exact ⟨t_law_hued K, (pss_cons (ps_set (i := 1) sc_law_hued.nd rfl (Or.inr rfl) (pe_lst pa_nil))
      (pss_cons (ps_for PassesOwn.never rfl (pi_range1 (by rfl) T.z_range (pa_cons (pe_callB q_len (by rfl) T.z_len (by decide +kernel) (pa_cons (pv 0) pa_nil)) pa_nil)) (pg_name (i := 2) sc_law_hued.nd rfl (Or.inr rfl))
      (pss_cons (ps_set (i := 3) sc_law_hued.nd rfl (Or.inr rfl) (pe_lc (own := [("_law_other", 4)]) (by rfl) sc_law_hued.nd (pi_list (pe_ix ix_list (pv 0) (pv 2) (fun _ _ => rfl))) (blkOk_by (own := [("_law_other", 4)]) (N := ["_law_meets_here", "_law_hues", "_law_k", "_law_taken", "_law_other", "_law_hue"]) (sc := defScope s_law_hued) (by decide +kernel)) (fun _ _ _ _ _ => (pg_name (i := 4) sc_law_hued.nd rfl (Or.inl rfl))) (fun _ _ _ _ _ => (pts_one (pt_cmpR op_lt (pv 4) (pv 2) (nomark _)))) (fun _ _ _ _ _ => (pe_ix ix_list (pv 1) (pv 4) (fun _ _ => rfl)))))
      (pss_one (ps_expr (pe_bm PySem.F.plainAttrs_list PySem.F.slot_list_append PySem.F.type_list_append mt_append (pv 1) (pa_cons (pe_ix ix_list (pe_lc (own := [("_law_hue", 5)]) (by rfl) sc_law_hued.nd (pi_range1 (by rfl) T.z_range (pa_cons (pe_op op_add (pv 2) pe_int) pa_nil)) (blkOk_by (own := [("_law_hue", 5)]) (N := ["_law_meets_here", "_law_hues", "_law_k", "_law_taken", "_law_other", "_law_hue"]) (sc := defScope s_law_hued) (by decide +kernel)) (fun _ _ _ _ _ => (pg_name (i := 5) sc_law_hued.nd rfl (Or.inl rfl))) (fun _ _ _ _ _ => (pts_one (pt_cmpR op_notIn_seq (pv 5) (pv 3) (by rfl)))) (fun _ _ _ _ _ => (pv 5))) pe_int (fun _ _ => rfl)) pa_nil))))))
      (pss_one (ps_ret (pv 1))))), pure_law_hued h⟩


def pr_law_bent (K : PySem.W.Frag) (v0 v1 : V) (H : Hp) (Q : VK) (_ : XK) : Prop := ∃ (pu hl : Addr) (k : Int) (hs : List Int), v0 = .ref pu ∧ v1 = .ref hl ∧ Le H pu k ∧ k < 800000 ∧ H hl = some (.lst (List.map V.int hs)) ∧ hl ∉ [pu] ∧ 0 < hs.length ∧ hs.length ≤ 100 ∧
  ∀ p us k' H', H p = none → Le H' pu k' → k' ≤ k + 5 → Same (hid [pu] H) (hid [pu] H') → p ∉ [pu] → H' p = some (.lst (List.map V.int us)) → us.length = hs.length → Q (.ref p) H'
def t_law_bent (K : PySem.W.Frag) : TS :=
  (tSeq (tAsg (tCall (sp_law_draw K) [] E0 (tCons (tVar 0) (tCons (tCB (rLenX K) (tCons (tVar 1) tNil)) tNil))) (gName 2))
    (tSeq (tAsg (tCall (sp_law_draw K) [] E0 (tCons (tVar 0) (tCons (tC (.int 3)) tNil))) (gName 3))
    (tSeq (tAsg (tCB (rListOf K) (tCons (tVar 1) tNil)) (gName 4))
    (tSeq (tIfS (tTest (tOp rEq (tVar 3) (tC (.int 1)))) (tAsg (tCall (sp_law_draw K) [] E0 (tCons (tVar 0) (tCons (tOp xAdd (tCB (rLenX K) (tCons (tVar 1) tNil)) (tC (.int 1))) tNil))) (gSub (tVar 4) (tVar 2) rSetL)) tNext)
    (tSeq (tIfS (tTest (tOp rEq (tVar 3) (tC (.int 2)))) (tAsg (tOp (rIxL K) (tVar 1) (tCall (sp_law_draw K) [] E0 (tCons (tVar 0) (tCons (tCB (rLenX K) (tCons (tVar 1) tNil)) tNil)))) (gSub (tVar 4) (tVar 2) rSetL)) tNext)
    (tRet (tVar 4)))))))
theorem pure_law_bent {v0 v1 : V} {H : Hp} {Q : VK} {E : XK} (h : pr_law_bent K v0 v1 H Q E) : t_law_bent K ⟨fun _ H' => Q .non H', Q, fun _ _ => False, fun _ _ => False⟩ [some v0, some v1, none, none, none] H := by
  obtain ⟨pu, hl, k, hs, rfl, rfl, L, hk, eh, nh, lz, hz, q⟩ := h
  unfold t_law_bent
  wtm_at "s"
  refine ⟨_, _, rfl, pu, k, (hs.length : Nat), rfl, rfl, L, by omega, by omega, by omega, fun a H1 a0 a1 L1 S1 => ?_⟩
  have e1 := keeps S1 eh nh
  wtm_at "s"
  refine ⟨_, _, rfl, pu, k + 1, 3, rfl, rfl, L1, by omega, by decide, by decide, fun w H2 w0 w1 L2 S2 => ?_⟩
  have e2 := keeps S2 e1 nh
  have S02 := S1.trans S2
  wtm_at "s"
  refine k_listN (sl e2) (fun fo H3 nfo s3 e3 => ?_)
  have nf' := L2.fresh nfo
  have frf : hid [pu] H fo = none := by rw [hid_ne nf']; exact fresh_hid S02 nfo nf'
  have S03 := S02.trans (hid_mono s3)
  have L3 := L2.same s3
  have e3h := s3 _ _ e2
  have fh : hl ≠ fo := fun z => by rw [← z, e2] at nfo; cases nfo
  obtain ⟨j, rfl⟩ : ∃ j : Nat, a = j := ⟨a.toNat, by omega⟩
  clear S1 S2 L1 L2 s3 L e2 e1 S02
  refine k_gname (seqO (fun σ' H' => ∃ us kk, Le H' pu kk ∧ kk ≤ k + 3 ∧ Same (hid [pu] H) (hid [pu] H') ∧ H' fo = some (.lst (List.map V.int us)) ∧ us.length = hs.length ∧ H' hl = some (.lst (List.map V.int hs)) ∧ σ' = [some (.ref pu), some (.ref hl), some (.int (j : Nat)), some (.int w), some (.ref fo)]) ?_ (fun nx1 go1 => ?_))
  rotate_left
  · wtm_at "s"
    refine k_it (fun c => ?_) (fun c => ?_)
    · wtm_at "s"
      refine ⟨_, _, rfl, pu, _, (hs.length : Nat) + 1, rfl, rfl, L3, by omega, by omega, by omega, fun r H4 r0 r1 L4 S4 => ?_⟩
      have e4 := keeps S4 e3 nf'
      have e4h := keeps S4 e3h nh
      wtm_at "s"
      refine k_setI e4 (by omega) (by omega) ?_
      exact go1 _ _ ⟨hs.set j r, _, L4.upd nf', by omega, same_hid_mut (S03.trans S4) frf, by rw [upd_same]; rfl, by simp, by rw [upd_ne fh]; exact e4h, rfl⟩
    · wtm_at "s"
      exact go1 _ _ ⟨hs, _, L3, by omega, S03, e3, rfl, e3h, rfl⟩
  rintro σ' H4 ⟨us, kk, L4, hkk, S4, e4, lu, e4h, rfl⟩
  clear L3 S03 e3 e3h
  wtm_at "s"
  refine k_it (fun c => ?_) (fun c => ?_)
  · wtm_at "s"
    refine ⟨_, _, rfl, pu, _, (hs.length : Nat), rfl, rfl, L4, by omega, by omega, by omega, fun r H5 r0 r1 L5 S5 => ?_⟩
    have e5 := keeps S5 e4 nf'
    have e5h := keeps S5 e4h nh
    wtm_at "s"
    refine k_ixI (sl e5h) r0 r1 ?_
    wtm_at "s"
    refine k_setI e5 (by omega) (by omega) ?_
    wtm_at "s"
    exact q fo (us.set j (hs.getD r.toNat 0)) _ _ (by have := frf; rw [hid_ne nf'] at this; exact this) (L5.upd nf') (by omega) (same_hid_mut (S4.trans S5) frf) nf' (by rw [upd_same]; rfl) (by simp [lu])
  · wtm_at "s"
    exact q fo us _ _ (by have := frf; rw [hid_ne nf'] at this; exact this) L4 (by omega) S4 nf' e4 lu
abbrev sp_law_bent (K : PySem.W.Frag) : Sp := fun vs H Q E => ∃ v0 v1, vs = [v0, v1] ∧ pr_law_bent K v0 v1 H Q E
theorem ok_law_bent (T : Txt K mg A) : FnOk P w K mg base CX0 3 A.a_law_bent A.d_law_bent ["_law_left_here", "_law_hues"] (sp_law_bent K) := by
  refine T.F_law_bent.ok sc_law_bent (fun vs H Q E h => by obtain ⟨v0, v1, rfl, _⟩ := h; rfl) (fun cdv A0 outer s H vs Q E hr h => ?_)
  obtain ⟨v0, v1, rfl, h⟩ := h
  exact ⟨t_law_bent K, (pss_cons (ps_set (i := 2) sc_law_bent.nd rfl (Or.inl rfl) (pe_call (ok_law_draw T) (hr.mono (by decide)) (by rfl) T.g_law_draw T.F_law_draw.kp T.b_law_draw .nil pass0 (pa_cons (pv 0) (pa_cons (pe_callB q_len (by rfl) T.z_len (by decide +kernel) (pa_cons (pv 1) pa_nil)) pa_nil))))
      (pss_cons (ps_set (i := 3) sc_law_bent.nd rfl (Or.inl rfl) (pe_call (ok_law_draw T) (hr.mono (by decide)) (by rfl) T.g_law_draw T.F_law_draw.kp T.b_law_draw .nil pass0 (pa_cons (pv 0) (pa_cons pe_int pa_nil))))
      (pss_cons (ps_set (i := 4) sc_law_bent.nd rfl (Or.inl rfl) (pe_callTy q_listOf (by rfl) T.z_list (by decide +kernel) (pa_cons (pv 1) pa_nil)))
      (pss_cons (ps_if (pt_cmpR op_eq (pv 3) pe_int (nomark _)) (pss_one (ps_asg (pe_call (ok_law_draw T) (hr.mono (by decide)) (by rfl) T.g_law_draw T.F_law_draw.kp T.b_law_draw .nil pass0 (pa_cons (pv 0) (pa_cons (pe_op op_add (pe_callB q_len (by rfl) T.z_len (by decide +kernel) (pa_cons (pv 1) pa_nil)) pe_int) pa_nil))) (pg_sub (pv 4) (pv 2) set_list))) pss_nil)
      (pss_cons (ps_if (pt_cmpR op_eq (pv 3) pe_int (nomark _)) (pss_one (ps_asg (pe_ix ix_list (pv 1) (pe_call (ok_law_draw T) (hr.mono (by decide)) (by rfl) T.g_law_draw T.F_law_draw.kp T.b_law_draw .nil pass0 (pa_cons (pv 0) (pa_cons (pe_callB q_len (by rfl) T.z_len (by decide +kernel) (pa_cons (pv 1) pa_nil)) pa_nil))) (fun _ _ => rfl)) (pg_sub (pv 4) (pv 2) set_list))) pss_nil)
      (pss_one (ps_ret (pv 4)))))))), pure_law_bent h⟩


/-- behind an if: what follows is shown once, and lies behind a letter meanwhile -/
theorem ifjoinO {c : Bool} {σ : L2.St} {H : Hp} {s1 s2 : TS} {nx bk ct : L2.St → Hp → Prop} {rt : VK} (G : L2.St → Hp → Prop) (main : ∀ σ H, G σ H → nx σ H) (h : ∀ nx' : L2.St → Hp → Prop, (∀ σ H, G σ H → nx' σ H) → if c = true then s1 ⟨nx', rt, bk, ct⟩ σ H else s2 ⟨nx', rt, bk, ct⟩ σ H) : if c = true then s1 ⟨nx, rt, bk, ct⟩ σ H else s2 ⟨nx, rt, bk, ct⟩ σ H := h _ main
theorem tie_ex {N : Net} (ok : N.ok) {w : Int × Int} (hw : isWay N w.1 w.2) : ∃ t, OnTie N w.1 w.2 t := by
  obtain ⟨a, b⟩ := w
  obtain ⟨w1, w2, w3, w4, w5⟩ := hw
  simp only at w1 w2 w3 w4 w5
  cases N with
  | line n => exact ⟨min a b, by show min a b ≤ min a b ∧ min a b < max a b; omega⟩
  | ring n =>
    have w4' : a < n := w4
    have w5' : b < n := w5
    exact ⟨a, w2, w4', by show up n a a < up n a b; rw [up_self]; exact (ring_far w2 w4' w3 w5' w1).2.2.2.1⟩
  | tree ps =>
    have w4' : a < ps.length + 1 := w4
    have w5' : b < ps.length + 1 := w5
    refine ⟨max a b - 1, by omega, by omega, ?_⟩
    show below ps ((max a b - 1).toNat + 1) a.toNat ≠ below ps ((max a b - 1).toNat + 1) b.toNat
    by_cases c : a < b
    · have e : (max a b - 1).toNat + 1 = b.toNat := by omega
      rw [e, below_self, below_lt _ (by omega)]
      decide
    · have e : (max a b - 1).toNat + 1 = a.toNat := by omega
      rw [e, below_self, below_lt _ (by omega)]
      decide
theorem cnt_flat {N : Net} (ok : N.ok) (t : Int) : ∀ ws : List (Int × Int), (∀ w ∈ ws, isWay N w.1 w.2) → ((ws.map (tiesF N)).flatten).count t = cnt N ws t
  | [], _ => rfl
  | w :: r, hok => by
    rw [List.map_cons, List.flatten_cons, List.count_append, cnt_flat ok t r (fun x hx => hok x (List.mem_cons_of_mem _ hx))]
    have hm := tiesF_mem ok (hok w List.mem_cons_self) t
    have nd : (tiesF N w).Nodup := (keepI_srt _ _).imp fun h => by omega
    unfold cnt
    rw [List.filter_cons]
    by_cases c : OnTie N w.1 w.2 t
    · rw [if_pos (decide_eq_true c), List.length_cons, List.Nodup.count nd, if_pos (hm.mpr c)]
      omega
    · rw [if_neg (by rw [decide_eq_false c]; decide), List.count_eq_zero.mpr (fun z => c (hm.mp z))]
      omega
theorem cntV_int (t : Int) : ∀ ts : List Int, cntV (.int t) (ts.map V.int) = ts.count t
  | [] => rfl
  | x :: r => by
    have ih := cntV_int t r
    unfold cntV at ih ⊢
    rw [List.map_cons, List.countP_cons, List.count_cons, ih]
    have e : eqV (.int x) (.int t) = (x == t) := by
      by_cases c : x = t
      · subst c; simp [eqV]
      · simp [eqV, c]
    rw [e]
theorem flat_le {N : Net} (ok : N.ok) : ∀ ws : List (Int × Int), ((ws.map (tiesF N)).flatten).length ≤ 60 * ws.length
  | [] => by simp
  | w :: r => by
    rw [List.map_cons, List.flatten_cons, List.length_append, List.length_cons]
    have := flat_le ok r
    have h1 := tiesF_len N w
    have h2 := ties_le ok
    omega
theorem flat_mem {N : Net} (ok : N.ok) {ws : List (Int × Int)} (hok : ∀ w ∈ ws, isWay N w.1 w.2) {t : Int} (h : t ∈ (ws.map (tiesF N)).flatten) : 0 ≤ t ∧ t < N.ties := by
  obtain ⟨l, hl, ht⟩ := List.mem_flatten.mp h
  obtain ⟨w, hw, rfl⟩ := List.mem_map.mp hl
  exact on_range ok (hok w hw) ((tiesF_mem ok (hok w hw) t).mp ht)
theorem flat_pos {N : Net} (ok : N.ok) {ws : List (Int × Int)} (hok : ∀ w ∈ ws, isWay N w.1 w.2) (h : 0 < ws.length) : 0 < ((ws.map (tiesF N)).flatten).length := by
  obtain ⟨w, r, rfl⟩ : ∃ w r, ws = w :: r := by cases ws with
    | nil => simp at h
    | cons w r => exact ⟨w, r, rfl⟩
  obtain ⟨t, ht⟩ := tie_ex ok (hok w List.mem_cons_self)
  have := (tiesF_mem ok (hok w List.mem_cons_self) t).mpr ht
  have := List.length_pos_of_mem this
  rw [List.map_cons, List.flatten_cons, List.length_append]
  omega
abbrev told58 (h : Int) (us : List Int) (t : Int) : PyData := .tuple [.int h, dInts us, .tuple [.str sTie, .int t]]
theorem str58 {s : Str} (h : PyData.strOk s = true) {n : Nat} : Sh n (.str s) := ⟨h, Nat.zero_le _⟩
theorem sh_told58 (h : Int) (us : List Int) (t : Int) : Sh 3 (told58 h us t) := sh_tup fun d hd => by
  rcases List.mem_cons.mp hd with rfl | hd
  · exact sh_int
  rcases List.mem_cons.mp hd with rfl | hd
  · exact (sh_ints us).mono (show 1 ≤ 2 by decide)
  rw [List.mem_singleton.mp hd]
  exact sh_tup fun d hd => by
    rcases List.mem_cons.mp hd with rfl | hd
    · exact str58 (by show PyData.strOk (Str.ofString "tie") = true; decide +kernel)
    · rw [List.mem_singleton.mp hd]; exact sh_int
theorem shows58 {N : Net} {ws : List (Int × Int)} {h t : Int} (t0 : 0 ≤ t) (t1 : t < N.ties) : ShowsF N ws h (.tuple [.str sTie, .int t]) ↔ (cnt N ws t : Int) = h := by
  constructor
  · intro z
    rcases showsF_head z with ⟨e, _⟩ | ⟨_, x, t', e, _, _, _, c⟩ | ⟨e, _⟩ | ⟨e, _⟩
    · exact absurd e (by simp only [sTie, sNone, PyData.str.injEq]; decide +kernel)
    · cases e; exact c
    · exact absurd e (by simp only [sTie, sLot, PyData.str.injEq]; decide +kernel)
    · exact absurd e (by simp only [sTie, sCase, PyData.str.injEq]; decide +kernel)
  · intro c
    exact ⟨_, rfl, .inr (.inl ⟨rfl, _, _, rfl, rfl, t0, t1, c⟩)⟩
theorem small58 {h t : Int} {us : List Int} {ds es : List PyData} (e : told58 h us t = .tuple ds) (m : PyData.tuple es ∈ ds) : ∀ D ∈ es, ∀ fs, D = .list fs → fs.length ≤ 1000 := by
  cases e
  intro D hD fs ef
  rcases List.mem_cons.mp m with e1 | m
  · cases e1
  rcases List.mem_cons.mp m with e1 | m
  · cases e1
  have e1 := List.mem_singleton.mp m
  cases e1
  rcases List.mem_cons.mp hD with e2 | hD
  · rw [ef] at e2; cases e2
  · rw [List.mem_singleton.mp hD] at ef; cases ef
def pr_law_fewest_so (K : PySem.W.Frag) (v0 : V) (H : Hp) (Q : VK) (_ : XK) : Prop := ∃ (pu : Addr) (k : Int), v0 = .ref pu ∧ Le H pu k ∧ k < 500000 ∧ ∀ H' k', Le H' pu k' → k' ≤ k + 200 → Same (hid [pu] H) (hid [pu] H') → Q (.bl true) H'
def t_law_fewest_so (K : PySem.W.Frag) : TS :=
  (tSeq (tAsg (tCall (sp_law_net K) [] E0 (tCons (tVar 0) tNil)) (gName 1))
    (tSeq (tAsg (tCall (sp_law_ways K) [] E0 (tCons (tVar 0) (tCons (tVar 1) (tCons (tOp xAdd (tC (.int 9)) (tCall (sp_law_draw K) [] E0 (tCons (tVar 0) (tCons (tC (.int 4)) tNil)))) tNil)))) (gName 2))
    (tSeq (tAsg (tCall (sp_law_meets K) [] E0 (tCons (tVar 1) (tCons (tVar 2) tNil))) (gName 3))
    (tSeq (tAsg (tCall (sp_law_bent K) [] E0 (tCons (tVar 0) (tCons (tCall (sp_law_hued K) [] E0 (tCons (tVar 3) tNil)) tNil))) (gName 4))
    (tSeq (tAsg (tOp xAdd (tLenU K (tVar 4)) (tOp (rIxL K) (tLst (tCons (tC (.int 0)) (tCons (tC (.int 0)) (tCons (tC (.int 0)) (tCons (tC (.int 1)) (tCons (tUn xNeg (tC (.int 1))) tNil)))))) (tCall (sp_law_draw K) [] E0 (tCons (tVar 0) (tCons (tC (.int 5)) tNil))))) (gName 5))
    (tSeq (tAsg (tLst tNil) (gName 6))
    (tSeq (tFor (iList K (tVar 2)) (gName 7)
      (tAsg (tOp rCat (tVar 6) (tCall (sp_law_ties K) [] E0 (tCons (tVar 1) (tCons (tVar 7) tNil)))) (gName 6)))
    (tSeq (tAsg (tOp (rIxL K) (tVar 6) (tC (.int 0))) (gName 8))
    (tSeq (tFor (iList K (tVar 6)) (gName 9)
      (tIfS (tTest (tOp xGt (tBM K "list" (rCntV K) (tVar 6) (tCons (tVar 9) tNil)) (tBM K "list" (rCntV K) (tVar 6) (tCons (tVar 8) tNil)))) (tAsg (tVar 9) (gName 8)) tNext))
    (tSeq (tIfS (tTest (tOp rEq (tCall (sp_law_draw K) [] E0 (tCons (tVar 0) (tCons (tC (.int 4)) tNil))) (tC (.int 0)))) (tAsg (tOp (rIxL K) (tVar 6) (tCall (sp_law_draw K) [] E0 (tCons (tVar 0) (tCons (tCB (rLenX K) (tCons (tVar 6) tNil)) tNil)))) (gName 8)) tNext)
    (tSeq (tAsg (tC .non) (gName 10))
    (tSeq (tIfS (tTest (tOp rNe (tBM K "list" (rCntV K) (tVar 6) (tCons (tVar 8) tNil)) (tVar 5))) (tAsg (tTup (tCons (tC (.str (Str.ofString "paper"))) tNil)) (gName 10)) tNext)
    (tSeq (tIfS (tNot (tB (tCall (sp_law_hues_are_so K) [] E0 (tCons (tVar 3) (tCons (tVar 5) (tCons (tVar 4) tNil)))))) (tAsg (tTup (tCons (tC (.str (Str.ofString "hues"))) tNil)) (gName 10)) tNext)
    (tSeq (tAsg (tTup (tCons (tCB (rListOf K) (tCons (tVar 2) tNil)) (tCons (tTup (tCons (tVar 5) (tCons (tCB (rListOf K) (tCons (tVar 4) tNil)) (tCons (tTup (tCons (tC (.str (Str.ofString "tie"))) (tCons (tVar 8) tNil))) tNil)))) tNil))) (gName 11))
    (tRet (tAndV (tOp (rEqD K) (tCall (sp_fewest_judged K) [] E0 (tCons (tVar 1) (tCons (tOp (rIxT K) (tVar 11) (tC (.int 0))) (tCons (tOp (rIxT K) (tVar 11) (tC (.int 1))) tNil)))) (tVar 10)) (tOp (rEqD K) (tVar 11) (tTup (tCons (tVar 2) (tCons (tTup (tCons (tVar 5) (tCons (tVar 4) (tCons (tTup (tCons (tC (.str (Str.ofString "tie"))) (tCons (tVar 8) tNil))) tNil)))) tNil))))))))))))))))))))
theorem pure_law_fewest_so {v0 : V} {H : Hp} {Q : VK} {E : XK} (hh : pr_law_fewest_so K v0 H Q E) : t_law_fewest_so K ⟨fun _ H' => Q .non H', Q, fun _ _ => False, fun _ _ => False⟩ [some v0, none, none, none, none, none, none, none, none, none, none, none] H := by
  obtain ⟨pu, k, rfl, L, hk, q⟩ := hh
  unfold t_law_fewest_so
  wtm_at "s"
  refine ⟨_, rfl, pu, k, rfl, L, by omega, fun nv N k1 H1 L1 hk1 S1 dN ok => ?_⟩
  wtm_at "s"
  refine ⟨_, _, rfl, pu, _, 4, rfl, rfl, L1, by omega, by decide, by decide, fun r H2 r0 r1 L2 S2 => ?_⟩
  obtain ⟨r, rfl⟩ : ∃ j : Nat, r = j := ⟨r.toNat, by omega⟩
  wtm_at "s"
  refine ⟨_, _, _, rfl, pu, _, N, 9 + r, rfl, by rw [show ((9 + r : Nat) : Int) = 9 + (r : Int) by omega], L2, by omega, dp_same S2 dN, ok, by omega, fun wp ws k3 H3 nwp L3 hk3 S3 dW lws hok => ?_⟩
  have S03 := S1.trans (S2.trans S3)
  have dN3 := dp_same (S2.trans S3) dN
  clear S1 S2 S3 L1 L2 dN
  wtm_at "s"
  refine ⟨_, _, rfl, N, ws, [pu], dp_same (hid_same _ _) dN3, ok, dp_same (hid_same _ _) dW, by omega, hok, (fun x hx => by rw [List.mem_singleton.mp hx]; obtain ⟨x', f', e, _⟩ := L3.hp; rw [e]; simp), fun mp H4 nmp s4 dM => ?_⟩
  wtm_at "s"
  refine ⟨_, rfl, N, ws, dp_same (hid_same _ _) dM, by omega, fun hp hs H5 nhp s5 eh lh hpos => ?_⟩
  have L5 := (L3.same s4).same s5
  have nhp' := (L3.same s4).fresh nhp
  wtm_at "s"
  refine ⟨_, _, rfl, pu, hp, _, hs, rfl, rfl, L5, by omega, eh, nhp', by omega, by omega, fun bp us k6 H6 nbp L6 hk6 S6 nb eb lb => ?_⟩
  have dM6 := dp_same ((hid_mono s5).trans S6) dM
  have S36 := (hid_mono (s4.trans s5)).trans S6
  clear eh dM nhp' L5 s5 s4 S6
  wtm_at "s"
  refine ⟨bp, us, rfl, sl eb, by omega, ?_⟩
  wtm_at "s"
  refine kL (by simp) (fun l7 H7 nl7 s7 e7 => ?_)
  have L7 := L6.same s7
  have nl7' := L6.fresh nl7
  wtm_at "s"
  refine ⟨_, _, rfl, pu, _, 5, rfl, rfl, L7, by omega, by decide, by decide, fun r2 H8 r20 r21 L8 S8 => ?_⟩
  have e8 : H8 l7 = some (.lst (List.map V.int [0, 0, 0, 1, -1])) := keeps S8 e7 nl7'
  refine k_ixI (sl e8) r20 (by simp only [List.length_cons, List.length_nil]; omega) ?_
  have hb := getD_memI (ns := ([0, 0, 0, 1, -1] : List Int)) r20 (by simp only [List.length_cons, List.length_nil]; omega)
  generalize ([0, 0, 0, 1, -1] : List Int).getD r2.toNat 0 = z at hb ⊢
  have hz : -1 ≤ z ∧ z ≤ 1 := by
    simp only [List.mem_cons, List.not_mem_nil, or_false] at hb
    omega
  have hul := unl_le us
  wtm_at "s"
  generalize hh : ((Cm.unl us : Nat) : Int) + z = h
  have S38 := S36.trans ((hid_mono s7).trans S8)
  have eb8 := keeps S8 (s7 _ _ eb) nb
  have dM8 := dp_same ((hid_mono s7).trans S8) dM6
  clear S8 s7 e8 e7 nl7 nl7' S36 dM6 eb L7 L6 r20 r21 hb
  refine kL (by simp) (fun tl H9 ntl s9 e9 => ?_)
  have ntl' := L8.fresh ntl
  have S09 := S03.trans (S38.trans (hid_mono s9))
  have L9 := L8.same s9
  have dN9 := dp_same (S38.trans (hid_mono s9)) dN3
  have dW9 := dp_same (S38.trans (hid_mono s9)) dW
  have dM9 := dp_same (hid_mono s9) dM8
  have eb9 := s9 _ _ eb8
  clear S03 S38 s9 L8 dN3 dW dM8 eb8
  obtain ⟨wl, ys, ewl, hwl, dys⟩ := dp_list dW9
  cases ewl
  have hwl' := Same.seq (hid_same _ _) hwl
  have lys : ys.length = ws.length := by rw [dpa_len dys, List.length_map]
  wtm_at "s"
  refine forL hwl' (fun i σ' H' => Same H9 H' ∧ ∃ tl k7, tl ∉ [pu] ∧ H' tl = some (.lst (List.map V.int ((ws.take i).map (tiesF N)).flatten)) ∧ σ' = [some (.ref pu), some nv, some (.ref wp), some (.ref mp), some (.ref bp), some (.int h), some (.ref tl), k7, none, none, none, none]) ⟨Same.refl _, tl, _, ntl', e9, rfl⟩ (fun i σ' H' _ e => e.1.seq hwl') ?_ ?_
  · rintro i x σ' H1 hx ⟨s1, tl, k7, ntl1, e1, rfl⟩
    obtain ⟨w, c, hw1, rfl, hc⟩ := dpairs_get dys hx
    have hi : i < ws.length := (List.getElem?_eq_some_iff.mp hw1).1
    have hcc := same_seqT ((hid_same _ _).trans s1) hc
    wtm_at "s"
    refine ⟨_, _, rfl, N, w.1, w.2, dp_same ((hid_same _ _).trans s1) dN9, ok, dp_of_pair hcc, hok w (List.mem_of_getElem? hw1), fun t2 H2 nt2 s2 e2 => ?_⟩
    have l1 := flat_le ok (ws.take i)
    have l2 : (tiesF N (w.1, w.2)).length ≤ N.ties := tiesF_len N w
    have l3 := ties_le ok
    have l4 : (ws.take i).length ≤ ws.length := by rw [List.length_take]; omega
    refine k_catN (s2 _ _ e1) e2 (by rw [List.length_map, List.length_map]; omega) (fun t3 H3 nt3 s3 e3 => ?_)
    wtm_at "s"
    refine ⟨s1.trans (s2.trans s3), t3, _, (L9.same (s1.trans s2)).fresh nt3, ?_, rfl⟩
    rw [e3, List.take_add_one, hw1]
    simp
  clear ntl'
  rintro σ' HA ⟨sA, tl, k7, ntl', eA, rfl⟩
  rw [lys, List.take_length] at eA
  have tb := fun t ht => flat_mem ok hok (t := t) ht
  have tp := flat_pos ok hok (by omega)
  have tz := flat_le ok ws
  have tc := fun t => cnt_flat ok t ws hok
  generalize (ws.map (tiesF N)).flatten = ts at eA tb tp tz tc
  have S0A := S09.trans (hid_mono sA)
  have LA := L9.same sA
  have dNA := dp_same (hid_mono sA) dN9
  have dWA := dp_same (hid_mono sA) dW9
  have dMA := dp_same (hid_mono sA) dM9
  have ebA := sA _ _ eb9
  clear S09 sA L9 dN9 dW9 dM9 eb9 hwl hwl' dys e9 ntl
  wtm_at "s"
  refine k_ixI (sl eA) (by omega) (by omega) ?_
  wtm_at "s"
  have t0m := getD_memI (ns := ts) (i := 0) (by omega) (by omega)
  refine forL (sl eA) (fun i σ' H' => H' = HA ∧ ∃ t k9, t ∈ ts ∧ σ' = [some (.ref pu), some nv, some (.ref wp), some (.ref mp), some (.ref bp), some (.int h), some (.ref tl), k7, some (.int t), k9, none, none]) ⟨rfl, _, _, t0m, rfl⟩ (fun i σ' H' _ e => e.1 ▸ sl eA) ?_ ?_
  · rintro i x σ' H1 hx ⟨rfl, t, k9, ht, rfl⟩
    rw [List.getElem?_map] at hx
    obtain ⟨y, hy, rfl⟩ := Option.map_eq_some_iff.mp hx
    wtm_at "s"
    refine k_tyL (sl eA) ?_
    wtm_at "s"
    refine k_cntV (sl eA) rfl (flat_ints _) ?_
    wtm_at "s"
    refine k_tyL (sl eA) ?_
    wtm_at "s"
    refine k_cntV (sl eA) rfl (flat_ints _) ?_
    wtm_at "s"
    refine k_it (fun c => ?_) (fun c => ?_)
    · wtm_at "s"
      exact ⟨rfl, _, _, List.mem_of_getElem? hy, rfl⟩
    · wtm_at "s"
      exact ⟨rfl, _, _, ht, rfl⟩
  rintro σ' H1 ⟨rfl, t, k9, ht, rfl⟩
  wtm_at "s"
  refine ⟨_, _, rfl, pu, _, 4, rfl, rfl, LA, by omega, by decide, by decide, fun r4 HB r40 r41 LB SB => ?_⟩
  wtm_at "s"
  have eB := keeps SB eA ntl'
  refine ifjoinO (fun σ' H' => ∃ t kk, t ∈ ts ∧ Le H' pu kk ∧ kk ≤ k + 190 ∧ Same (hid [pu] H1) (hid [pu] H') ∧ σ' = [some (.ref pu), some nv, some (.ref wp), some (.ref mp), some (.ref bp), some (.int h), some (.ref tl), k7, some (.int t), k9, none, none]) ?_ (fun nx1 go1 => ?_)
  rotate_left
  · refine k_it (fun c => ?_) (fun c => ?_)
    · wtm_at "s"
      refine ⟨_, _, rfl, pu, _, (ts.length : Nat), rfl, rfl, LB, by omega, by omega, by omega, fun r5 HC r50 r51 LC SC => ?_⟩
      refine k_ixI (sl (keeps SC eB ntl')) r50 r51 ?_
      wtm_at "s"
      exact go1 _ _ ⟨_, _, getD_memI r50 r51, LC, by omega, SB.trans SC, rfl⟩
    · wtm_at "s"
      exact go1 _ _ ⟨_, _, ht, LB, by omega, SB, rfl⟩
  clear eB LB SB ht t0m
  rintro σ' HC ⟨t, kk, ht, LC, hkk, SC, rfl⟩
  have eC := keeps SC eA ntl'
  have ebC := keeps SC ebA nb
  have S0C := S0A.trans SC
  have dNC := dp_same SC dNA
  have dWC := dp_same SC dWA
  have dMC := dp_same SC dMA
  obtain ⟨t0, t1⟩ := tb t ht
  have sh58 := shows58 (N := N) (ws := ws) (h := h) t0 t1
  have tct := tc t
  have dUC : Dp K HC (.ref bp) (dInts us) := dp_of_ints (sl ebC)
  clear SC LA eA S0A dNA dWA dMA ebA
  wtm_at "s"
  refine k_tyL (sl eC) ?_
  wtm_at "s"
  refine k_cntV (sl eC) rfl (flat_ints _) ?_
  rw [cntV_int, tct]
  wtm_at "s"
  refine ifjoinO (fun σ' H' => ∃ v10 D10, Same HC H' ∧ Dp K H' v10 D10 ∧ ((D10 = .none ∧ (cnt N ws t : Int) = h) ∨ (D10 = .tuple [.str (Str.ofString "paper")] ∧ (cnt N ws t : Int) ≠ h)) ∧ σ' = [some (.ref pu), some nv, some (.ref wp), some (.ref mp), some (.ref bp), some (.int h), some (.ref tl), k7, some (.int t), k9, some v10, none]) ?_ (fun nx1 go1 => ?_)
  rotate_left
  · refine k_itn (fun c => ?_) (fun c => ?_)
    · wtm_at "s"
      refine kT (by simp) (fun p HD np sD eD => ?_)
      wtm_at "s"
      exact go1 _ _ ⟨_, _, sD, .tup (stp eD) (.cons (.str _) .nil), .inr ⟨rfl, c⟩, rfl⟩
    · wtm_at "s"
      exact go1 _ _ ⟨_, _, Same.refl _, .non, .inl ⟨rfl, c⟩, rfl⟩
  rintro σ' HD ⟨v10, D10, sD, d10, c10, rfl⟩
  wtm_at "s"
  refine ⟨_, _, _, rfl, N, ws, .int h, dInts us, dp_same ((hid_same _ _).trans sD) dMC, ok, by omega, hok, .int _, sh_int, dp_same sD dUC, fun b HE sE hb => ?_⟩
  wtm_at "s"
  refine ifjoinO (fun σ' H' => ∃ v10 D10, Same HC H' ∧ Dp K H' v10 D10 ∧ Sh 2 D10 ∧ (badHues N ws (told58 h us t) → D10 = .tuple [.str (Str.ofString "hues")]) ∧ (badPap N ws (told58 h us t) → D10 = .tuple [.str (Str.ofString "paper")]) ∧ (goodTold N ws (told58 h us t) → D10 = .none) ∧ σ' = [some (.ref pu), some nv, some (.ref wp), some (.ref mp), some (.ref bp), some (.int h), some (.ref tl), k7, some (.int t), k9, some v10, none]) ?_ (fun nx1 go1 => ?_)
  rotate_left
  · cases b with
    | false =>
      have n : ¬ AreH N ws (.int h) (dInts us) := fun z => by cases hb.mpr z
      wtm_at "s"
      refine kT (by simp) (fun p HF np sF eF => ?_)
      wtm_at "s"
      exact go1 _ _ ⟨_, _, sD.trans (sE.trans sF), .tup (stp eF) (.cons (.str _) .nil), sh_tup (n := 1) (fun d hd => by rw [List.mem_singleton.mp hd]; exact str58 (by decide +kernel)), fun _ => rfl, (fun ⟨_, _, _, e, z, _⟩ => by cases e; exact absurd z n), (fun ⟨_, _, _, e, z, _⟩ => by cases e; exact absurd z n), rfl⟩
    | true =>
      have A := hb.mp rfl
      wtm_at "s"
      refine go1 _ _ ⟨_, D10, sD.trans sE, dp_same sE d10, ?_, (fun z => absurd ⟨_, _, _, rfl, A⟩ z), (fun ⟨_, _, _, e, _, z⟩ => ?_), (fun ⟨_, _, _, e, _, z⟩ => ?_), rfl⟩
      · rcases c10 with ⟨rfl, _⟩ | ⟨rfl, _⟩
        · exact ⟨by decide, by decide⟩
        · exact sh_tup (n := 1) (fun d hd => by rw [List.mem_singleton.mp hd]; exact str58 (by decide +kernel))
      · cases e
        rcases c10 with ⟨rfl, c⟩ | ⟨rfl, c⟩
        · exact absurd (sh58.mpr c) z
        · rfl
      · cases e
        rcases c10 with ⟨rfl, c⟩ | ⟨rfl, c⟩
        · rfl
        · exact absurd (sh58.mp z) c
  clear sD d10 c10 hb sE
  rintro σ' HE ⟨v10, D10, sE, d10, sh10, g1, g2, g3, rfl⟩
  obtain ⟨wl, ys, ewl, hwl, dys⟩ := dp_list dWC
  cases ewl
  wtm_at "s"
  refine k_listN (sE.seq (Same.seq (hid_same _ _) hwl)) (fun w2 HF nw2 sF eF => ?_)
  wtm_at "s"
  refine k_listN (sl ((sE.trans sF) _ _ ebC)) (fun u2 HG nu2 sG eG => ?_)
  wtm_at "s"
  refine kT (by simp) (fun p1 HI np1 sI eI => ?_)
  wtm_at "s"
  refine kT (by simp) (fun p2 HJ np2 sJ eJ => ?_)
  wtm_at "s"
  refine kT (by simp) (fun p3 HK np3 sK eK => ?_)
  have sCK := sE.trans (sF.trans (sG.trans (sI.trans (sJ.trans sK))))
  have dT : Dp K HK (.ref p2) (told58 h us t) := .tup (stp (sK _ _ eJ)) (.cons (.int _) (.cons (dp_of_ints (sl ((sI.trans (sJ.trans sK)) _ _ eG))) (.cons (.tup (stp ((sJ.trans sK) _ _ eI)) (.cons (.str _) (.cons (.int _) .nil))) .nil)))
  have dW2 : Dp K HK (.ref w2) (dPairs ws) := .lst (sl ((sG.trans (sI.trans (sJ.trans sK))) _ _ eF)) (dpa_same ((hid_same _ _).trans sCK) dys)
  wtm_at "s"
  have d10K := dp_same (sF.trans (sG.trans (sI.trans (sJ.trans sK)))) d10
  refine ⟨_, _, _, rfl, N, ws, told58 h us t, dp_same ((hid_same _ _).trans sCK) dNC, ok, dW2, by omega, hok, dT, (sh_told58 h us t).mono (by decide), (fun ds es e m => small58 e m), (fun p HL sL eL b => ?_), (fun p HL sL eL b => ?_), (fun HL sL g => ?_)⟩
  · have e := g1 b
    subst e
    wtm_at "s"
    refine k_eqD1 (n := 2) (.tup (stp eL) (.cons (.str _) .nil)) (dp_same sL d10K) sh10 (by decide) ?_
    wtm_at "s"
    refine kT (by simp) (fun q1 HM nq1 sM eM => ?_)
    wtm_at "s"
    refine kT (by simp) (fun q2 HN nq2 sN eN => ?_)
    wtm_at "s"
    refine kT (by simp) (fun q3 HO nq3 sO eO => ?_)
    have sKO := sL.trans (sM.trans (sN.trans sO))
    have sCO := sCK.trans sKO
    have dUO := dp_same sCO dUC
    refine k_eqD1 (n := 4) (c := .tuple [dPairs ws, told58 h us t]) (.tup (stp (sKO _ _ eK)) (.cons (dp_same sKO dW2) (.cons (dp_same sKO dT) .nil))) (.tup (stp eO) (.cons (.lst (sCO.seq (Same.seq (hid_same _ _) hwl)) (dpa_same ((hid_same _ _).trans sCO) dys)) (.cons (.tup (stp (sO _ _ eN)) (.cons (.int _) (.cons dUO (.cons (.tup (stp ((sN.trans sO) _ _ eM)) (.cons (.str _) (.cons (.int _) .nil))) .nil)))) .nil))) (sh_two (n := 3) (Cm.sh_pairs ws (n := 1)) (sh_told58 h us t)) (by decide) ?_
    exact q _ _ (LC.same sCO) (by omega) (S0C.trans (hid_mono sCO))
  · have e := g2 b
    subst e
    wtm_at "s"
    refine k_eqD1 (n := 2) (.tup (stp eL) (.cons (.str _) .nil)) (dp_same sL d10K) sh10 (by decide) ?_
    wtm_at "s"
    refine kT (by simp) (fun q1 HM nq1 sM eM => ?_)
    wtm_at "s"
    refine kT (by simp) (fun q2 HN nq2 sN eN => ?_)
    wtm_at "s"
    refine kT (by simp) (fun q3 HO nq3 sO eO => ?_)
    have sKO := sL.trans (sM.trans (sN.trans sO))
    have sCO := sCK.trans sKO
    have dUO := dp_same sCO dUC
    refine k_eqD1 (n := 4) (c := .tuple [dPairs ws, told58 h us t]) (.tup (stp (sKO _ _ eK)) (.cons (dp_same sKO dW2) (.cons (dp_same sKO dT) .nil))) (.tup (stp eO) (.cons (.lst (sCO.seq (Same.seq (hid_same _ _) hwl)) (dpa_same ((hid_same _ _).trans sCO) dys)) (.cons (.tup (stp (sO _ _ eN)) (.cons (.int _) (.cons dUO (.cons (.tup (stp ((sN.trans sO) _ _ eM)) (.cons (.str _) (.cons (.int _) .nil))) .nil)))) .nil))) (sh_two (n := 3) (Cm.sh_pairs ws (n := 1)) (sh_told58 h us t)) (by decide) ?_
    exact q _ _ (LC.same sCO) (by omega) (S0C.trans (hid_mono sCO))
  · have e := g3 g
    subst e
    wtm_at "s"
    refine k_eqD1 (n := 2) .non (dp_same sL d10K) sh10 (by decide) ?_
    wtm_at "s"
    refine kT (by simp) (fun q1 HM nq1 sM eM => ?_)
    wtm_at "s"
    refine kT (by simp) (fun q2 HN nq2 sN eN => ?_)
    wtm_at "s"
    refine kT (by simp) (fun q3 HO nq3 sO eO => ?_)
    have sKO := sL.trans (sM.trans (sN.trans sO))
    have sCO := sCK.trans sKO
    have dUO := dp_same sCO dUC
    refine k_eqD1 (n := 4) (c := .tuple [dPairs ws, told58 h us t]) (.tup (stp (sKO _ _ eK)) (.cons (dp_same sKO dW2) (.cons (dp_same sKO dT) .nil))) (.tup (stp eO) (.cons (.lst (sCO.seq (Same.seq (hid_same _ _) hwl)) (dpa_same ((hid_same _ _).trans sCO) dys)) (.cons (.tup (stp (sO _ _ eN)) (.cons (.int _) (.cons dUO (.cons (.tup (stp ((sN.trans sO) _ _ eM)) (.cons (.str _) (.cons (.int _) .nil))) .nil)))) .nil))) (sh_two (n := 3) (Cm.sh_pairs ws (n := 1)) (sh_told58 h us t)) (by decide) ?_
    exact q _ _ (LC.same sCO) (by omega) (S0C.trans (hid_mono sCO))
abbrev sp_law_fewest_so (K : PySem.W.Frag) : Sp := fun vs H Q E => ∃ v0, vs = [v0] ∧ pr_law_fewest_so K v0 H Q E
theorem ok_law_fewest_so (T : Txt K mg A) : FnOk P w K mg base CX0 19 A.a_law_fewest_so A.d_law_fewest_so ["_law_left_here"] (sp_law_fewest_so K) := by
  refine T.F_law_fewest_so.ok sc_law_fewest_so (fun vs H Q E h => by obtain ⟨v0, rfl, _⟩ := h; rfl) (fun cdv A0 outer s H vs Q E hr h => ?_)
  obtain ⟨v0, rfl, h⟩ := h
  exact ⟨t_law_fewest_so K, (pss_cons (ps_set (i := 1) sc_law_fewest_so.nd rfl (Or.inl rfl) (pe_call (ok_law_net T) (hr.mono (by decide)) (by rfl) T.g_law_net T.F_law_net.kp T.b_law_net .nil pass0 (pa_cons (pv 0) pa_nil)))
      (pss_cons (ps_set (i := 2) sc_law_fewest_so.nd rfl (Or.inl rfl) (pe_call (ok_law_ways T) (hr.mono (by decide)) (by rfl) T.g_law_ways T.F_law_ways.kp T.b_law_ways .nil pass0 (pa_cons (pv 0) (pa_cons (pv 1) (pa_cons (pe_op op_add pe_int (pe_call (ok_law_draw T) (hr.mono (by decide)) (by rfl) T.g_law_draw T.F_law_draw.kp T.b_law_draw .nil pass0 (pa_cons (pv 0) (pa_cons pe_int pa_nil)))) pa_nil)))))
      (pss_cons (ps_set (i := 3) sc_law_fewest_so.nd rfl (Or.inl rfl) (pe_call (ok_law_meets T) (hr.mono (by decide)) (by rfl) T.g_law_meets T.F_law_meets.kp T.b_law_meets .nil pass0 (pa_cons (pv 1) (pa_cons (pv 2) pa_nil))))
      (pss_cons (ps_set (i := 4) sc_law_fewest_so.nd rfl (Or.inl rfl) (pe_call (ok_law_bent T) (hr.mono (by decide)) (by rfl) T.g_law_bent T.F_law_bent.kp T.b_law_bent .nil pass0 (pa_cons (pv 0) (pa_cons (pe_call (ok_law_hued T) (hr.mono (by decide)) (by rfl) T.g_law_hued T.F_law_hued.kp T.b_law_hued .nil pass0 (pa_cons (pv 3) pa_nil)) pa_nil))))
      (pss_cons (ps_set (i := 5) sc_law_fewest_so.nd rfl (Or.inl rfl) (pe_op op_add (pe_lenU (by rfl) (by rfl) T.z_len (by rfl) T.z_set (pv 4)) (pe_ix ix_list (pe_lst (pa_cons pe_int (pa_cons pe_int (pa_cons pe_int (pa_cons pe_int (pa_cons (pe_un un_neg pe_int) pa_nil)))))) (pe_call (ok_law_draw T) (hr.mono (by decide)) (by rfl) T.g_law_draw T.F_law_draw.kp T.b_law_draw .nil pass0 (pa_cons (pv 0) (pa_cons pe_int pa_nil))) (fun _ _ => rfl))))
      (pss_cons (ps_set (i := 6) sc_law_fewest_so.nd rfl (Or.inl rfl) (pe_lst pa_nil))
      (pss_cons (ps_for PassesOwn.never rfl (pi_list (pv 2)) (pg_name (i := 7) sc_law_fewest_so.nd rfl (Or.inl rfl))
      (pss_one (ps_set (i := 6) sc_law_fewest_so.nd rfl (Or.inl rfl) (pe_op op_cat (pv 6) (pe_call (ok_law_ties T) (hr.mono (by decide)) (by rfl) T.g_law_ties T.F_law_ties.kp T.b_law_ties .nil pass0 (pa_cons (pv 1) (pa_cons (pv 7) pa_nil)))))))
      (pss_cons (ps_set (i := 8) sc_law_fewest_so.nd rfl (Or.inl rfl) (pe_ix ix_list (pv 6) pe_int (fun _ _ => rfl)))
      (pss_cons (ps_for PassesOwn.never rfl (pi_list (pv 6)) (pg_name (i := 9) sc_law_fewest_so.nd rfl (Or.inl rfl))
      (pss_one (ps_if (pt_cmpR op_gt (pe_bm PySem.F.plainAttrs_list PySem.F.slot_list_count PySem.F.type_list_count mt_lcountV (pv 6) (pa_cons (pv 9) pa_nil)) (pe_bm PySem.F.plainAttrs_list PySem.F.slot_list_count PySem.F.type_list_count mt_lcountV (pv 6) (pa_cons (pv 8) pa_nil)) (nomark _)) (pss_one (ps_set (i := 8) sc_law_fewest_so.nd rfl (Or.inl rfl) (pv 9))) pss_nil)))
      (pss_cons (ps_if (pt_cmpR op_eq (pe_call (ok_law_draw T) (hr.mono (by decide)) (by rfl) T.g_law_draw T.F_law_draw.kp T.b_law_draw .nil pass0 (pa_cons (pv 0) (pa_cons pe_int pa_nil))) pe_int (nomark _)) (pss_one (ps_set (i := 8) sc_law_fewest_so.nd rfl (Or.inl rfl) (pe_ix ix_list (pv 6) (pe_call (ok_law_draw T) (hr.mono (by decide)) (by rfl) T.g_law_draw T.F_law_draw.kp T.b_law_draw .nil pass0 (pa_cons (pv 0) (pa_cons (pe_callB q_len (by rfl) T.z_len (by decide +kernel) (pa_cons (pv 6) pa_nil)) pa_nil))) (fun _ _ => rfl)))) pss_nil)
      (pss_cons (ps_set (i := 10) sc_law_fewest_so.nd rfl (Or.inl rfl) pe_non)
      (pss_cons (ps_if (pt_cmpR op_ne (pe_bm PySem.F.plainAttrs_list PySem.F.slot_list_count PySem.F.type_list_count mt_lcountV (pv 6) (pa_cons (pv 8) pa_nil)) (pv 5) (nomark _)) (pss_one (ps_set (i := 10) sc_law_fewest_so.nd rfl (Or.inl rfl) (pe_tup (pa_cons pe_str pa_nil)))) pss_nil)
      (pss_cons (ps_if (pt_not (pt_val (pe_call (ok_law_hues_are_so T) (hr.mono (by decide)) (by rfl) T.g_law_hues_are_so T.F_law_hues_are_so.kp T.b_law_hues_are_so .nil pass0 (pa_cons (pv 3) (pa_cons (pv 5) (pa_cons (pv 4) pa_nil)))))) (pss_one (ps_set (i := 10) sc_law_fewest_so.nd rfl (Or.inl rfl) (pe_tup (pa_cons pe_str pa_nil)))) pss_nil)
      (pss_cons (ps_set (i := 11) sc_law_fewest_so.nd rfl (Or.inl rfl) (pe_tup (pa_cons (pe_callTy q_listOf (by rfl) T.z_list (by decide +kernel) (pa_cons (pv 2) pa_nil)) (pa_cons (pe_tup (pa_cons (pv 5) (pa_cons (pe_callTy q_listOf (by rfl) T.z_list (by decide +kernel) (pa_cons (pv 4) pa_nil)) (pa_cons (pe_tup (pa_cons pe_str (pa_cons (pv 8) pa_nil))) pa_nil)))) pa_nil))))
      (pss_one (ps_ret (pe_and (pe_cmpR (op_eqD hr.units) (pe_call (ok_fewest_judged T) (hr.mono (by decide)) (by rfl) T.g_fewest_judged T.F_fewest_judged.kp T.b_fewest_judged .nil pass0 (pa_cons (pv 1) (pa_cons (pe_ix ix_tup (pv 11) pe_int (fun _ _ => rfl)) (pa_cons (pe_ix ix_tup (pv 11) pe_int (fun _ _ => rfl)) pa_nil)))) (pv 10) (nomark _)) (pe_one (pe_cmpR (op_eqD hr.units) (pv 11) (pe_tup (pa_cons (pv 2) (pa_cons (pe_tup (pa_cons (pv 5) (pa_cons (pv 4) (pa_cons (pe_tup (pa_cons pe_str (pa_cons (pv 8) pa_nil))) pa_nil)))) pa_nil))) (nomark _)))))))))))))))))))), pure_law_fewest_so h⟩


def pr_law_leaf (K : PySem.W.Frag) (v0 v1 : V) (H : Hp) (Q : VK) (_ : XK) : Prop := ∃ (pu : Addr) (k n : Int), v0 = .ref pu ∧ Dp K (hid [pu] H) v1 (Net.ring n).d ∧ 0 < n ∧ n ≤ 60 ∧ Le H pu k ∧ k < 900000 ∧
  ∀ p D H', Le H' pu (k + 2) → Same (hid [pu] H) (hid [pu] H') → Dp K (hid [pu] H') (.ref p) D → Q (.ref p) H'
def t_law_leaf (K : PySem.W.Frag) : TS :=
  (tRet (tTup (tCons (tC (.str (Str.ofString "ties"))) (tCons (tCall (sp_law_draw K) [] E0 (tCons (tVar 0) (tCons (tOp (rIxT K) (tVar 1) (tC (.int 1))) tNil))) (tCons (tCall (sp_law_draw K) [] E0 (tCons (tVar 0) (tCons (tOp (rIxT K) (tVar 1) (tC (.int 1))) tNil))) tNil)))))
theorem pure_law_leaf {v0 v1 : V} {H : Hp} {Q : VK} {E : XK} (h : pr_law_leaf K v0 v1 H Q E) : t_law_leaf K ⟨fun _ H' => Q .non H', Q, fun _ _ => False, fun _ _ => False⟩ [some v0, some v1] H := by
  obtain ⟨pu, k, n, rfl, dN, n0, n1, L, hk, q⟩ := h
  obtain ⟨an, y, rfl, hn, hy⟩ := dp_net dN
  obtain rfl := dp_int hy
  unfold t_law_leaf
  wtm_at "s"
  refine ⟨_, _, rfl, pu, k, n, rfl, rfl, L, by omega, by omega, by omega, fun e H1 e0 e1 L1 S1 => ?_⟩
  wtm_at "s"
  refine ⟨_, _, rfl, pu, k + 1, n, rfl, rfl, L1, by omega, by omega, by omega, fun f H2 f0 f1 L2 S2 => ?_⟩
  wtm_at "s"
  refine kTp L2 (by simp) (fun p H3 np s3 e3 => ?_)
  have L3 := L2.same s3
  rw [show k + 1 + 1 = k + 2 by omega] at L3
  exact q p (.tuple [.str (Str.ofString "ties"), .int e, .int f]) H3 L3 (S1.trans (S2.trans (hid_mono s3))) (.tup (stp e3) (.cons (.str _) (.cons (.int _) (.cons (.int _) .nil))))
abbrev sp_law_leaf (K : PySem.W.Frag) : Sp := fun vs H Q E => ∃ v0 v1, vs = [v0, v1] ∧ pr_law_leaf K v0 v1 H Q E
theorem ok_law_leaf (T : Txt K mg A) : FnOk P w K mg base CX0 3 A.a_law_leaf A.d_law_leaf ["_law_left_here", "_law_net_here"] (sp_law_leaf K) := by
  refine T.F_law_leaf.ok sc_law_leaf (fun vs H Q E h => by obtain ⟨v0, v1, rfl, _⟩ := h; rfl) (fun cdv A0 outer s H vs Q E hr h => ?_)
  obtain ⟨v0, v1, rfl, h⟩ := h
  exact ⟨t_law_leaf K, (pss_one (ps_ret (pe_tup (pa_cons pe_str (pa_cons (pe_call (ok_law_draw T) (hr.mono (by decide)) (by rfl) T.g_law_draw T.F_law_draw.kp T.b_law_draw .nil pass0 (pa_cons (pv 0) (pa_cons (pe_ix ix_tup (pv 1) pe_int (fun _ _ => rfl)) pa_nil))) (pa_cons (pe_call (ok_law_draw T) (hr.mono (by decide)) (by rfl) T.g_law_draw T.F_law_draw.kp T.b_law_draw .nil pass0 (pa_cons (pv 0) (pa_cons (pe_ix ix_tup (pv 1) pe_int (fun _ _ => rfl)) pa_nil))) pa_nil)))))), pure_law_leaf h⟩
theorem filt1 (a : Int) : ∀ l : List Int, l.Nodup → l.length ≤ (l.filter fun x => !decide (x = a)).length + 1
  | [], _ => by simp
  | x :: l, nd => by
    obtain ⟨n1, n2⟩ := List.nodup_cons.mp nd
    have ih := filt1 a l n2
    by_cases c : x = a
    · have e : (l.filter fun x => !decide (x = a)) = l := List.filter_eq_self.mpr fun y hy => by
        have : y ≠ a := fun z => n1 (by rw [c, ← z]; exact hy)
        simp [this]
      rw [List.filter_cons, if_neg (by simp [c]), e]
      simp
    · rw [List.filter_cons, if_pos (by simp [c])]
      simp only [List.length_cons]
      omega
theorem keep_but1 (n : Nat) (a : Int) : n ≤ (keepI n fun j => !decide ((j : Int) = a)).length + 1 := by
  have nd : ((List.range n).map fun (i : Nat) => (i : Int)).Nodup := List.pairwise_map.mpr (List.pairwise_lt_range.imp fun h => by omega)
  have h := filt1 a _ nd
  rw [List.filter_map, List.length_map, List.length_map, List.length_range] at h
  unfold keepI
  rw [List.length_map]
  exact h
theorem keep_but2 (n : Nat) (a b : Int) : n ≤ (keepI n fun j => (!decide ((j : Int) = a)) && !decide ((j : Int) = b)).length + 2 := by
  have nd : ((List.range n).map fun (i : Nat) => (i : Int)).Nodup := List.pairwise_map.mpr (List.pairwise_lt_range.imp fun h => by omega)
  have h := filt1 b _ nd
  have h2 := filt1 a _ (List.Pairwise.sublist List.filter_sublist nd : (((List.range n).map fun (i : Nat) => (i : Int)).filter fun x => !decide (x = b)).Nodup)
  rw [List.filter_filter, List.filter_map, List.filter_map, List.length_map, List.length_map] at h2
  rw [List.filter_map, List.length_map, List.length_map, List.length_range] at h
  unfold keepI
  rw [List.length_map]
  have e : (List.filter ((fun x => (!decide (x = a)) && !decide (x = b)) ∘ fun (i : Nat) => (i : Int)) (List.range n)) = List.filter (fun j : Nat => (!decide ((j : Int) = a)) && !decide ((j : Int) = b)) (List.range n) := rfl
  rw [e] at h2
  have e2 : (List.filter ((fun x => !decide (x = b)) ∘ fun (i : Nat) => (i : Int)) (List.range n)).length ≤ (List.filter (fun j : Nat => (!decide ((j : Int) = a)) && !decide ((j : Int) = b)) (List.range n)).length + 1 := h2
  omega
def pr_law_turn_paper (K : PySem.W.Frag) (v0 v1 v2 : V) (H : Hp) (Q : VK) (_ : XK) : Prop := ∃ (pu : Addr) (k n : Int) (ws : List (Int × Int)), v0 = .ref pu ∧ Dp K (hid [pu] H) v1 (Net.ring n).d ∧ 0 < n ∧ n ≤ 60 ∧ Dp K (hid [pu] H) v2 (dPairs ws) ∧ 3 ≤ ws.length ∧ ws.length ≤ 100 ∧ Le H pu k ∧ k < 800000 ∧
  ∀ p D k' H', Le H' pu k' → k' ≤ k + 40 → Same (hid [pu] H) (hid [pu] H') → Dp K (hid [pu] H') (.ref p) D → Q (.ref p) H'
def t_law_turn_paper (K : PySem.W.Frag) : TS :=
  (tSeq (tAsg (tCall (sp_law_draw K) [] E0 (tCons (tVar 0) (tCons (tCB (rLenX K) (tCons (tVar 2) tNil)) tNil))) (gName 3))
    (tSeq (tAsg (tOp (rIxL K) (tLc (iRng1 (tCons (tCB (rLenX K) (tCons (tVar 2) tNil)) tNil)) (gName 8) (tTest (tOp rNe (tVar 8) (tVar 3))) (tVar 8) [8]) (tCall (sp_law_draw K) [] E0 (tCons (tVar 0) (tCons (tOp xSub (tCB (rLenX K) (tCons (tVar 2) tNil)) (tC (.int 1))) tNil)))) (gName 4))
    (tSeq (tAsg (tOp (rIxL K) (tLc (iRng1 (tCons (tCB (rLenX K) (tCons (tVar 2) tNil)) tNil)) (gName 8) (tAnd (tTest (tOp rNe (tVar 8) (tVar 3))) (tTest (tOp rNe (tVar 8) (tVar 4)))) (tVar 8) [8]) (tCall (sp_law_draw K) [] E0 (tCons (tVar 0) (tCons (tOp xSub (tCB (rLenX K) (tCons (tVar 2) tNil)) (tC (.int 2))) tNil)))) (gName 5))
    (tSeq (tAsg (tOp (rIxL K) (tLst (tCons (tVar 4) (tCons (tVar 4) (tCons (tVar 3) (tCons (tVar 5) tNil))))) (tCall (sp_law_draw K) [] E0 (tCons (tVar 0) (tCons (tC (.int 4)) tNil)))) (gName 6))
    (tSeq (tAsg (tTup (tCons (tVar 6) (tCons (tCall (sp_law_leaf K) [] E0 (tCons (tVar 0) (tCons (tVar 1) tNil))) (tCons (tCall (sp_law_leaf K) [] E0 (tCons (tVar 0) (tCons (tVar 1) tNil))) tNil)))) (gName 7))
    (tSeq (tIfS (tTest (tOp rEq (tCall (sp_law_draw K) [] E0 (tCons (tVar 0) (tCons (tC (.int 2)) tNil))) (tC (.int 0)))) (tAsg (tTup (tCons (tVar 4) (tCons (tCall (sp_law_leaf K) [] E0 (tCons (tVar 0) (tCons (tVar 1) tNil))) (tCons (tTup (tCons (tVar 6) (tCons (tCall (sp_law_leaf K) [] E0 (tCons (tVar 0) (tCons (tVar 1) tNil))) (tCons (tCall (sp_law_leaf K) [] E0 (tCons (tVar 0) (tCons (tVar 1) tNil))) tNil)))) tNil)))) (gName 7)) tNext)
    (tRet (tOp (rIxL K) (tLst (tCons (tTup (tCons (tVar 3) (tCons (tVar 7) (tCons (tCall (sp_law_leaf K) [] E0 (tCons (tVar 0) (tCons (tVar 1) tNil))) tNil)))) (tCons (tTup (tCons (tVar 3) (tCons (tCall (sp_law_leaf K) [] E0 (tCons (tVar 0) (tCons (tVar 1) tNil))) (tCons (tVar 7) tNil)))) tNil))) (tCall (sp_law_draw K) [] E0 (tCons (tVar 0) (tCons (tC (.int 2)) tNil)))))))))))
theorem pure_law_turn_paper {v0 v1 v2 : V} {H : Hp} {Q : VK} {E : XK} (h : pr_law_turn_paper K v0 v1 v2 H Q E) : t_law_turn_paper K ⟨fun _ H' => Q .non H', Q, fun _ _ => False, fun _ _ => False⟩ [some v0, some v1, some v2, none, none, none, none, none, none] H := by
  obtain ⟨pu, k, n, ws, rfl, dN, n0, n1, dW, l3, lz, L, hk, q⟩ := h
  obtain ⟨b, ys, rfl, hb, dys⟩ := dp_list dW
  have ly : ys.length = ws.length := by rw [dpa_len dys, List.length_map]
  have hbS : ∀ {H' : Hp}, Same (hid [pu] H) (hid [pu] H') → SqL K H' b ys := fun s => (s.trans (hid_same _ _)).seq hb
  unfold t_law_turn_paper
  wtm_at "s"
  refine ⟨_, _, rfl, pu, k, (ys.length : Nat), rfl, rfl, L, by omega, by omega, by omega, fun one H1 a0 a1 L1 S1 => ?_⟩
  wtm_at "s"
  refine lc_pureR (by omega) (fun j => if (fun j : Nat => !decide ((j : Int) = one)) j = true then some (V.int (0 + (j : Nat))) else none) ?_ (fun l1 H2 nl1 s2 e2 => ?_)
  · intro j H' hj sm R R0 h1 h2
    wtm_at "s"
    rw [Int.zero_add] at h1 ⊢
    refine k_itn (fun c => ?_) (fun c => ?_)
    · wtm_at "s"
      exact h1 _ (by rw [if_pos (by simp [c])])
    · exact h2 (by rw [if_neg (by simp [c])])
  rw [keepI_fm, Int.toNat_natCast] at e2
  have g1 := keep_but1 ys.length one
  have L2 := L1.same s2
  have nl1' := L1.fresh nl1
  wtm_at "s"
  refine ⟨_, _, rfl, pu, k + 1, (ys.length : Nat) - 1, rfl, rfl, L2, by omega, by omega, by omega, fun r H3 r0 r1 L3 S3 => ?_⟩
  have S03 := S1.trans ((hid_mono s2).trans S3)
  have e3 := keeps S3 e2 nl1'
  refine k_ixI (sl e3) r0 (by omega) ?_
  generalize (keepI ys.length fun j => !decide ((j : Int) = one)).getD r.toNat 0 = two
  clear e3 S3 L2 s2 e2 S1 L1 L g1 nl1' nl1
  wtm_at "s"
  refine lc_pureR (by omega) (fun j => if (fun j : Nat => (!decide ((j : Int) = one)) && !decide ((j : Int) = two)) j = true then some (V.int (0 + (j : Nat))) else none) ?_ (fun l1 H4 nl1 s2 e2 => ?_)
  · intro j H' hj sm R R0 h1 h2
    wtm_at "s"
    rw [Int.zero_add] at h1 ⊢
    refine k_itn (fun c => ?_) (fun c => ?_)
    · wtm_at "s"
      refine k_itn (fun c2 => ?_) (fun c2 => ?_)
      · wtm_at "s"
        exact h1 _ (by rw [if_pos (by simp [c, c2])])
      · exact h2 (by rw [if_neg (by simp [c2])])
    · exact h2 (by rw [if_neg (by simp [c])])
  rw [keepI_fm, Int.toNat_natCast] at e2
  have g1 := keep_but2 ys.length one two
  have L4 := L3.same s2
  have nl1' := L3.fresh nl1
  wtm_at "s"
  refine ⟨_, _, rfl, pu, _, (ys.length : Nat) - 2, rfl, rfl, L4, by omega, by omega, by omega, fun r H5 r0 r1 L5 S5 => ?_⟩
  have S05 := S03.trans ((hid_mono s2).trans S5)
  have e5 := keeps S5 e2 nl1'
  refine k_ixI (sl e5) r0 (by omega) ?_
  generalize (keepI ys.length fun j => (!decide ((j : Int) = one)) && !decide ((j : Int) = two)).getD r.toNat 0 = three
  clear e5 S5 L4 s2 e2 S03 L3 g1 nl1' nl1
  wtm_at "s"
  refine kL (by simp) (fun l4 H6 nl4 s6 e6 => ?_)
  have L6 := L5.same s6
  have nl4' := L5.fresh nl4
  wtm_at "s"
  refine ⟨_, _, rfl, pu, _, 4, rfl, rfl, L6, by omega, by decide, by decide, fun r H7 r0 r1 L7 S7 => ?_⟩
  have e7 : H7 l4 = some (.lst (List.map V.int [two, two, one, three])) := keeps S7 e6 nl4'
  refine k_ixI (sl e7) r0 (by simp only [List.length_cons, List.length_nil]; omega) ?_
  generalize ([two, two, one, three] : List Int).getD r.toNat 0 = again
  have S07 := S05.trans ((hid_mono s6).trans S7)
  clear e7 S7 L6 L5 s6 e6 S05 nl4' nl4
  have dN7 := dp_same S07 dN
  wtm_at "s"
  refine ⟨_, _, rfl, pu, _, n, rfl, dN7, n0, n1, L7, by omega, fun p1 D1 H8 L8 S8 d8 => ?_⟩
  wtm_at "s"
  refine ⟨_, _, rfl, pu, _, n, rfl, dp_same S8 dN7, n0, n1, L8, by omega, fun p2 D2 H9 L9 S9 d9 => ?_⟩
  wtm_at "s"
  refine kTp L9 (by simp) (fun pi HA npi sA eA => ?_)
  have dI : Dp K (hid [pu] HA) (.ref pi) (.tuple [.int again, D1, D2]) := .tup (stp eA) (.cons (.int _) (.cons (dp_same (S9.trans (hid_mono sA)) d8) (.cons (dp_same (hid_mono sA) d9) .nil)))
  have S0A := S07.trans (S8.trans (S9.trans (hid_mono sA)))
  have LA := L9.same sA
  clear L7 L8 L9 S8 S9 sA eA d8 d9 dN7 S07
  refine k_gname (seqO (fun σ' H' => ∃ kk pi D, Le H' pu kk ∧ kk ≤ k + 30 ∧ Same (hid [pu] H) (hid [pu] H') ∧ Dp K (hid [pu] H') (.ref pi) D ∧ σ' = [some (.ref pu), some v1, some (.ref b), some (.int one), some (.int two), some (.int three), some (.int again), some (.ref pi), none]) ?_ (fun nx1 go1 => ?_))
  rotate_left
  · wtm_at "s"
    refine ⟨_, _, rfl, pu, _, 2, rfl, rfl, LA, by omega, by decide, by decide, fun r HB r0 r1 LB SB => ?_⟩
    wtm_at "s"
    refine k_it (fun c => ?_) (fun c => ?_)
    · have dNB := dp_same (S0A.trans SB) dN
      wtm_at "s"
      refine ⟨_, _, rfl, pu, _, n, rfl, dNB, n0, n1, LB, by omega, fun p1 D1 H8 L8 S8 d8 => ?_⟩
      wtm_at "s"
      refine ⟨_, _, rfl, pu, _, n, rfl, dp_same S8 dNB, n0, n1, L8, by omega, fun p2 D2 H9 L9 S9 d9 => ?_⟩
      wtm_at "s"
      refine ⟨_, _, rfl, pu, _, n, rfl, dp_same (S8.trans S9) dNB, n0, n1, L9, by omega, fun p3 D3 HC LC SC d10 => ?_⟩
      wtm_at "s"
      refine kTp LC (by simp) (fun pj HD npj sD eD => ?_)
      have dJ : Dp K (hid [pu] HD) (.ref pj) (.tuple [.int again, D2, D3]) := .tup (stp eD) (.cons (.int _) (.cons (dp_same (SC.trans (hid_mono sD)) d9) (.cons (dp_same (hid_mono sD) d10) .nil)))
      have LD := LC.same sD
      wtm_at "s"
      refine kTp LD (by simp) (fun pk HE npk sE eE => ?_)
      wtm_at "s"
      exact go1 _ _ ⟨_, pk, .tuple [.int two, D1, .tuple [.int again, D2, D3]], LD.same sE, by omega, S0A.trans (SB.trans (S8.trans (S9.trans (SC.trans ((hid_mono sD).trans (hid_mono sE)))))), .tup (stp eE) (.cons (.int _) (.cons (dp_same (S9.trans (SC.trans ((hid_mono sD).trans (hid_mono sE)))) d8) (.cons (dp_same (hid_mono sE) dJ) .nil))), rfl⟩
    · wtm_at "s"
      exact go1 _ _ ⟨_, pi, _, LB, by omega, S0A.trans SB, dp_same SB dI, rfl⟩
  clear LA S0A dI
  rintro σ' HB ⟨kk, pi, D, LB, hkk, SB, dI, rfl⟩
  have dNB := dp_same SB dN
  wtm_at "s"
  refine ⟨_, _, rfl, pu, _, n, rfl, dNB, n0, n1, LB, by omega, fun p1 D1 H1 L1 S1 d1 => ?_⟩
  wtm_at "s"
  refine kTp L1 (by simp) (fun t1 H2 nt1 s2 e2 => ?_)
  have L2 := L1.same s2
  have dT1 : Dp K (hid [pu] H2) (.ref t1) (.tuple [.int one, D, D1]) := .tup (stp e2) (.cons (.int _) (.cons (dp_same (S1.trans (hid_mono s2)) dI) (.cons (dp_same (hid_mono s2) d1) .nil)))
  have SB2 := S1.trans (hid_mono s2)
  wtm_at "s"
  refine ⟨_, _, rfl, pu, _, n, rfl, dp_same SB2 dNB, n0, n1, L2, by omega, fun p3 D3 H3 L3 S3 d3 => ?_⟩
  wtm_at "s"
  refine kTp L3 (by simp) (fun t2 H4 nt2 s4 e4 => ?_)
  have L4 := L3.same s4
  have dT2 : Dp K (hid [pu] H4) (.ref t2) (.tuple [.int one, D3, D]) := .tup (stp e4) (.cons (.int _) (.cons (dp_same (hid_mono s4) d3) (.cons (dp_same (SB2.trans (S3.trans (hid_mono s4))) dI) .nil)))
  have S24 := S3.trans (hid_mono s4)
  wtm_at "s"
  refine kL (by simp) (fun l5 H5 nl5 s5 e5 => ?_)
  have L5 := L4.same s5
  have nl5' := L4.fresh nl5
  wtm_at "s"
  refine ⟨_, _, rfl, pu, _, 2, rfl, rfl, L5, by omega, by decide, by decide, fun r H6 r0 r1 L6 S6 => ?_⟩
  have e6 := keeps S6 e5 nl5'
  have S46 := (hid_mono s5 (S := [pu])).trans S6
  have S06 := SB.trans (SB2.trans (S24.trans S46))
  have rc : r = 0 ∨ r = 1 := by omega
  rcases rc with rfl | rfl
  · refine k_ixL (sl e6) (v := .ref t1) rfl ?_
    exact q t1 _ _ _ L6 (by omega) S06 (dp_same (S24.trans S46) dT1)
  · refine k_ixL (sl e6) (v := .ref t2) rfl ?_
    exact q t2 _ _ _ L6 (by omega) S06 (dp_same S46 dT2)
abbrev sp_law_turn_paper (K : PySem.W.Frag) : Sp := fun vs H Q E => ∃ v0 v1 v2, vs = [v0, v1, v2] ∧ pr_law_turn_paper K v0 v1 v2 H Q E
theorem ok_law_turn_paper (T : Txt K mg A) : FnOk P w K mg base CX0 4 A.a_law_turn_paper A.d_law_turn_paper ["_law_left_here", "_law_net_here", "_law_ways_here"] (sp_law_turn_paper K) := by
  refine T.F_law_turn_paper.ok sc_law_turn_paper (fun vs H Q E h => by obtain ⟨v0, v1, v2, rfl, _⟩ := h; rfl) (fun cdv A0 outer s H vs Q E hr h => ?_)
  obtain ⟨v0, v1, v2, rfl, h⟩ := h
  exact ⟨t_law_turn_paper K, (pss_cons (ps_set (i := 3) sc_law_turn_paper.nd rfl (Or.inr rfl) (pe_call (ok_law_draw T) (hr.mono (by decide)) (by rfl) T.g_law_draw T.F_law_draw.kp T.b_law_draw .nil pass0 (pa_cons (pv 0) (pa_cons (pe_callB q_len (by rfl) T.z_len (by decide +kernel) (pa_cons (pv 2) pa_nil)) pa_nil))))
      (pss_cons (ps_set (i := 4) sc_law_turn_paper.nd rfl (Or.inr rfl) (pe_ix ix_list (pe_lc (own := [("_law_k", 8)]) (by rfl) sc_law_turn_paper.nd (pi_range1 (by rfl) T.z_range (pa_cons (pe_callB q_len (by rfl) T.z_len (by decide +kernel) (pa_cons (pv 2) pa_nil)) pa_nil)) (blkOk_by (own := [("_law_k", 8)]) (N := ["_law_left_here", "_law_net_here", "_law_ways_here", "_law_one", "_law_two", "_law_three", "_law_again", "_law_inner", "_law_k"]) (sc := defScope s_law_turn_paper) (by decide +kernel)) (fun _ _ _ _ _ => (pg_name (i := 8) sc_law_turn_paper.nd rfl (Or.inl rfl))) (fun _ _ _ _ _ => (pts_one (pt_cmpR op_ne (pv 8) (pv 3) (nomark _)))) (fun _ _ _ _ _ => (pv 8))) (pe_call (ok_law_draw T) (hr.mono (by decide)) (by rfl) T.g_law_draw T.F_law_draw.kp T.b_law_draw .nil pass0 (pa_cons (pv 0) (pa_cons (pe_op op_sub (pe_callB q_len (by rfl) T.z_len (by decide +kernel) (pa_cons (pv 2) pa_nil)) pe_int) pa_nil))) (fun _ _ => rfl)))
      (pss_cons (ps_set (i := 5) sc_law_turn_paper.nd rfl (Or.inl rfl) (pe_ix ix_list (pe_lc (own := [("_law_k", 8)]) (by rfl) sc_law_turn_paper.nd (pi_range1 (by rfl) T.z_range (pa_cons (pe_callB q_len (by rfl) T.z_len (by decide +kernel) (pa_cons (pv 2) pa_nil)) pa_nil)) (blkOk_by (own := [("_law_k", 8)]) (N := ["_law_left_here", "_law_net_here", "_law_ways_here", "_law_one", "_law_two", "_law_three", "_law_again", "_law_inner", "_law_k"]) (sc := defScope s_law_turn_paper) (by decide +kernel)) (fun _ _ _ _ _ => (pg_name (i := 8) sc_law_turn_paper.nd rfl (Or.inl rfl))) (fun _ _ _ _ _ => (pts_one (PW.pt (pw_and (pt_cmpR op_ne (pv 8) (pv 3) (nomark _)) (pw_and1 (pt_cmpR op_ne (pv 8) (pv 4) (nomark _))))))) (fun _ _ _ _ _ => (pv 8))) (pe_call (ok_law_draw T) (hr.mono (by decide)) (by rfl) T.g_law_draw T.F_law_draw.kp T.b_law_draw .nil pass0 (pa_cons (pv 0) (pa_cons (pe_op op_sub (pe_callB q_len (by rfl) T.z_len (by decide +kernel) (pa_cons (pv 2) pa_nil)) pe_int) pa_nil))) (fun _ _ => rfl)))
      (pss_cons (ps_set (i := 6) sc_law_turn_paper.nd rfl (Or.inl rfl) (pe_ix ix_list (pe_lst (pa_cons (pv 4) (pa_cons (pv 4) (pa_cons (pv 3) (pa_cons (pv 5) pa_nil))))) (pe_call (ok_law_draw T) (hr.mono (by decide)) (by rfl) T.g_law_draw T.F_law_draw.kp T.b_law_draw .nil pass0 (pa_cons (pv 0) (pa_cons pe_int pa_nil))) (fun _ _ => rfl)))
      (pss_cons (ps_set (i := 7) sc_law_turn_paper.nd rfl (Or.inl rfl) (pe_tup (pa_cons (pv 6) (pa_cons (pe_call (ok_law_leaf T) (hr.mono (by decide)) (by rfl) T.g_law_leaf T.F_law_leaf.kp T.b_law_leaf .nil pass0 (pa_cons (pv 0) (pa_cons (pv 1) pa_nil))) (pa_cons (pe_call (ok_law_leaf T) (hr.mono (by decide)) (by rfl) T.g_law_leaf T.F_law_leaf.kp T.b_law_leaf .nil pass0 (pa_cons (pv 0) (pa_cons (pv 1) pa_nil))) pa_nil)))))
      (pss_cons (ps_if (pt_cmpR op_eq (pe_call (ok_law_draw T) (hr.mono (by decide)) (by rfl) T.g_law_draw T.F_law_draw.kp T.b_law_draw .nil pass0 (pa_cons (pv 0) (pa_cons pe_int pa_nil))) pe_int (nomark _)) (pss_one (ps_set (i := 7) sc_law_turn_paper.nd rfl (Or.inl rfl) (pe_tup (pa_cons (pv 4) (pa_cons (pe_call (ok_law_leaf T) (hr.mono (by decide)) (by rfl) T.g_law_leaf T.F_law_leaf.kp T.b_law_leaf .nil pass0 (pa_cons (pv 0) (pa_cons (pv 1) pa_nil))) (pa_cons (pe_tup (pa_cons (pv 6) (pa_cons (pe_call (ok_law_leaf T) (hr.mono (by decide)) (by rfl) T.g_law_leaf T.F_law_leaf.kp T.b_law_leaf .nil pass0 (pa_cons (pv 0) (pa_cons (pv 1) pa_nil))) (pa_cons (pe_call (ok_law_leaf T) (hr.mono (by decide)) (by rfl) T.g_law_leaf T.F_law_leaf.kp T.b_law_leaf .nil pass0 (pa_cons (pv 0) (pa_cons (pv 1) pa_nil))) pa_nil)))) pa_nil)))))) pss_nil)
      (pss_one (ps_ret (pe_ix ix_list (pe_lst (pa_cons (pe_tup (pa_cons (pv 3) (pa_cons (pv 7) (pa_cons (pe_call (ok_law_leaf T) (hr.mono (by decide)) (by rfl) T.g_law_leaf T.F_law_leaf.kp T.b_law_leaf .nil pass0 (pa_cons (pv 0) (pa_cons (pv 1) pa_nil))) pa_nil)))) (pa_cons (pe_tup (pa_cons (pv 3) (pa_cons (pe_call (ok_law_leaf T) (hr.mono (by decide)) (by rfl) T.g_law_leaf T.F_law_leaf.kp T.b_law_leaf .nil pass0 (pa_cons (pv 0) (pa_cons (pv 1) pa_nil))) (pa_cons (pv 7) pa_nil)))) pa_nil))) (pe_call (ok_law_draw T) (hr.mono (by decide)) (by rfl) T.g_law_draw T.F_law_draw.kp T.b_law_draw .nil pass0 (pa_cons (pv 0) (pa_cons pe_int pa_nil))) (fun _ _ => rfl)))))))))), pure_law_turn_paper h⟩


theorem k_isiBB58 {K : PySem.W.Frag} {H : Hp} {Q : VK} {b : Bool} (h : Q (.bl true) H) : rIsi K [.bl b, .ty "bool"] H Q := k_isi (.base (.bl b)) (by decide +kernel) h
def pr_law_turns_so (K : PySem.W.Frag) (v0 : V) (H : Hp) (Q : VK) (_ : XK) : Prop := ∃ (pu : Addr) (k : Int), v0 = .ref pu ∧ Le H pu k ∧ k < 500000 ∧ ∀ H' k', Le H' pu k' → k' ≤ k + 200 → Same (hid [pu] H) (hid [pu] H') → Q (.bl true) H'
def t_law_turns_so (K : PySem.W.Frag) : TS :=
  (tSeq (tAsg (tTup (tCons (tC (.str (Str.ofString "ring"))) (tCons (tOp xAdd (tC (.int 5)) (tCall (sp_law_draw K) [] E0 (tCons (tVar 0) (tCons (tC (.int 5)) tNil)))) tNil))) (gName 1))
    (tSeq (tAsg (tCall (sp_law_ways K) [] E0 (tCons (tVar 0) (tCons (tVar 1) (tCons (tOp xAdd (tC (.int 7)) (tCall (sp_law_draw K) [] E0 (tCons (tVar 0) (tCons (tC (.int 3)) tNil)))) tNil)))) (gName 2))
    (tSeq (tAsg (tOp xMul (tCall (sp_law_draw K) [] E0 (tCons (tVar 0) (tCons (tC (.int 3)) tNil))) (tCall (sp_law_draw K) [] E0 (tCons (tVar 0) (tCons (tC (.int 2)) tNil)))) (gName 3))
    (tSeq (tAsg (tCall (sp_law_turn_paper K) [] E0 (tCons (tVar 0) (tCons (tVar 1) (tCons (tVar 2) tNil)))) (gName 4))
    (tSeq (tAsg (tCall (sp_law_turn_right K) [] E0 (tCons (tVar 1) (tCons (tVar 2) (tCons (tVar 3) (tCons tDNewK (tCons (tVar 4) tNil)))))) (gName 5))
    (tSeq (tAsg (tCB (rListOf K) (tCons (tVar 2) tNil)) (gName 6))
    (tSeq (tAsg (tCall (sp_turn_judged K) [] E0 (tCons (tVar 1) (tCons (tVar 6) (tCons (tVar 3) (tCons (tVar 4) tNil))))) (gName 7))
    (tRet (tAndV (tCB (rIsi K) (tCons (tVar 7) (tCons (tC (.ty "bool")) tNil))) (tAndV (tOp rEq (tVar 7) (tVar 5)) (tOp (rEqD K) (tVar 6) (tVar 2))))))))))))
theorem pure_law_turns_so {v0 : V} {H : Hp} {Q : VK} {E : XK} (hh : pr_law_turns_so K v0 H Q E) : t_law_turns_so K ⟨fun _ H' => Q .non H', Q, fun _ _ => False, fun _ _ => False⟩ [some v0, none, none, none, none, none, none, none] H := by
  obtain ⟨pu, k, rfl, L, hk, q⟩ := hh
  unfold t_law_turns_so
  wtm_at "s"
  refine ⟨_, _, rfl, pu, k, 5, rfl, rfl, L, by omega, by decide, by decide, fun r H1 r0 r1 L1 S1 => ?_⟩
  wtm_at "s"
  generalize hn : (5 : Int) + r = n
  refine kTp L1 (by simp) (fun np H2 nnp s2 e2 => ?_)
  have L2 := L1.same s2
  have dN2 : Dp K (hid [pu] H2) (.ref np) (Net.ring n).d := .tup (stp e2) (.cons (.str _) (.cons (.int _) .nil))
  have ok : (Net.ring n).ok := ⟨by omega, by omega⟩
  have S02 := S1.trans (hid_mono s2)
  clear L1 S1 s2 e2 nnp
  wtm_at "s"
  refine ⟨_, _, rfl, pu, _, 3, rfl, rfl, L2, by omega, by decide, by decide, fun r H3 r0 r1 L3 S3 => ?_⟩
  obtain ⟨r, rfl⟩ : ∃ j : Nat, r = j := ⟨r.toNat, by omega⟩
  wtm_at "s"
  refine ⟨_, _, _, rfl, pu, _, .ring n, 7 + r, rfl, by rw [show ((7 + r : Nat) : Int) = 7 + (r : Int) by omega], L3, by omega, dp_same S3 dN2, ok, by omega, fun wp ws k3 H4 nwp L4 hk4 S4 dW lws hok => ?_⟩
  have dN4 := dp_same (S3.trans S4) dN2
  have S04 := S02.trans (S3.trans S4)
  clear S02 S3 S4 L2 L3 dN2
  wtm_at "s"
  refine ⟨_, _, rfl, pu, _, 3, rfl, rfl, L4, by omega, by decide, by decide, fun m1 H5 m10 m11 L5 S5 => ?_⟩
  wtm_at "s"
  refine ⟨_, _, rfl, pu, _, 2, rfl, rfl, L5, by omega, by decide, by decide, fun m2 H6 m20 m21 L6 S6 => ?_⟩
  wtm_at "s"
  have hm : 0 ≤ m1 * m2 ∧ m1 * m2 ≤ 2 := by
    have c : m2 = 0 ∨ m2 = 1 := by omega
    rcases c with rfl | rfl <;> omega
  generalize m1 * m2 = m at hm ⊢
  have dN6 := dp_same (S5.trans S6) dN4
  have dW6 := dp_same (S5.trans S6) dW
  have S06 := S04.trans (S5.trans S6)
  clear S04 S5 S6 L4 L5 dN4 dW
  refine ⟨_, _, _, rfl, pu, _, n, ws, rfl, dN6, by omega, by omega, dW6, by omega, by omega, L6, by omega, fun pp D k7 H7 L7 hk7 S7 dD => ?_⟩
  have dN7 := dp_same (S7.trans (hid_same _ _)) dN6
  have dW7 := dp_same (S7.trans (hid_same _ _)) dW6
  have dD7 := dp_same (hid_same _ _) dD
  have S07 := S06.trans S7
  wtm_at "s"
  refine kD (fun a H8 na s8 e8 => ?_)
  wtm_at "s"
  refine ⟨_, _, _, _, _, rfl, 11, by decide, n, ws, [], a, m, D, dp_same s8 dN7, ok, dp_same s8 dW7, hok, by omega, rfl, by omega, by omega, rfl, e8, (fun k u z => by cases z), by decide, by rw [fr_nil]; omega, dp_same s8 dD7, fun H9 s9 => ?_⟩
  have s79 := s8.trans s9
  obtain ⟨wl, ys, ewl, hwl, dys⟩ := dp_list dW7
  cases ewl
  wtm_at "s"
  refine k_listN (s79.seq hwl) (fun w2 HA nw2 sA eA => ?_)
  have s7A := s79.trans sA
  have dH : Dp K HA (.ref w2) (dPairs ws) := .lst (sl eA) (dpa_same s7A dys)
  wtm_at "s"
  refine ⟨_, _, _, _, rfl, n, ws, m, D, dp_same s7A dN7, ok, dH, by omega, hok, rfl, by omega, by omega, dp_same s7A dD7, fun HB sB => ?_⟩
  have s7B := s7A.trans sB
  wtm_at "s"
  refine k_isiBB58 ?_
  wtm_at "s"
  rw [decide_eq_true rfl]
  wtm_at "s"
  refine k_eqD1 (n := 2) (c := dPairs ws) (dp_same sB dH) (dp_same s7B dW7) (Cm.sh_pairs ws) (by decide) ?_
  exact q _ _ (L7.same s7B) (by omega) (S07.trans (hid_mono s7B))
abbrev sp_law_turns_so (K : PySem.W.Frag) : Sp := fun vs H Q E => ∃ v0, vs = [v0] ∧ pr_law_turns_so K v0 H Q E
theorem ok_law_turns_so (T : Txt K mg A) : FnOk P w K mg base CX0 17 A.a_law_turns_so A.d_law_turns_so ["_law_left_here"] (sp_law_turns_so K) := by
  refine T.F_law_turns_so.ok sc_law_turns_so (fun vs H Q E h => by obtain ⟨v0, rfl, _⟩ := h; rfl) (fun cdv A0 outer s H vs Q E hr h => ?_)
  obtain ⟨v0, rfl, h⟩ := h
  exact ⟨t_law_turns_so K, (pss_cons (ps_set (i := 1) sc_law_turns_so.nd rfl (Or.inl rfl) (pe_tup (pa_cons pe_str (pa_cons (pe_op op_add pe_int (pe_call (ok_law_draw T) (hr.mono (by decide)) (by rfl) T.g_law_draw T.F_law_draw.kp T.b_law_draw .nil pass0 (pa_cons (pv 0) (pa_cons pe_int pa_nil)))) pa_nil))))
      (pss_cons (ps_set (i := 2) sc_law_turns_so.nd rfl (Or.inl rfl) (pe_call (ok_law_ways T) (hr.mono (by decide)) (by rfl) T.g_law_ways T.F_law_ways.kp T.b_law_ways .nil pass0 (pa_cons (pv 0) (pa_cons (pv 1) (pa_cons (pe_op op_add pe_int (pe_call (ok_law_draw T) (hr.mono (by decide)) (by rfl) T.g_law_draw T.F_law_draw.kp T.b_law_draw .nil pass0 (pa_cons (pv 0) (pa_cons pe_int pa_nil)))) pa_nil)))))
      (pss_cons (ps_set (i := 3) sc_law_turns_so.nd rfl (Or.inl rfl) (pe_op op_mul (pe_call (ok_law_draw T) (hr.mono (by decide)) (by rfl) T.g_law_draw T.F_law_draw.kp T.b_law_draw .nil pass0 (pa_cons (pv 0) (pa_cons pe_int pa_nil))) (pe_call (ok_law_draw T) (hr.mono (by decide)) (by rfl) T.g_law_draw T.F_law_draw.kp T.b_law_draw .nil pass0 (pa_cons (pv 0) (pa_cons pe_int pa_nil)))))
      (pss_cons (ps_set (i := 4) sc_law_turns_so.nd rfl (Or.inl rfl) (pe_call (ok_law_turn_paper T) (hr.mono (by decide)) (by rfl) T.g_law_turn_paper T.F_law_turn_paper.kp T.b_law_turn_paper .nil pass0 (pa_cons (pv 0) (pa_cons (pv 1) (pa_cons (pv 2) pa_nil)))))
      (pss_cons (ps_set (i := 5) sc_law_turns_so.nd rfl (Or.inl rfl) (pe_call (ok_law_turn_right T) (hr.mono (by decide)) (by rfl) T.g_law_turn_right T.F_law_turn_right.kp T.b_law_turn_right .nil pass0 (pa_cons (pv 1) (pa_cons (pv 2) (pa_cons (pv 3) (pa_cons pe_dnewK (pa_cons (pv 4) pa_nil)))))))
      (pss_cons (ps_set (i := 6) sc_law_turns_so.nd rfl (Or.inl rfl) (pe_callTy q_listOf (by rfl) T.z_list (by decide +kernel) (pa_cons (pv 2) pa_nil)))
      (pss_cons (ps_set (i := 7) sc_law_turns_so.nd rfl (Or.inl rfl) (pe_call (ok_turn_judged T) (hr.mono (by decide)) (by rfl) T.g_turn_judged T.F_turn_judged.kp T.b_turn_judged .nil pass0 (pa_cons (pv 1) (pa_cons (pv 6) (pa_cons (pv 3) (pa_cons (pv 4) pa_nil))))))
      (pss_one (ps_ret (pe_and (pe_callB q_isi (by rfl) T.z_isinstance (by decide +kernel) (pa_cons (pv 7) (pa_cons (pe_bltn (v := .ty "bool") (by rfl) T.z_bool (by decide +kernel) rfl) pa_nil))) (pe_and (pe_cmpR op_eq (pv 7) (pv 5) (nomark _)) (pe_one (pe_cmpR (op_eqD hr.units) (pv 6) (pv 2) (nomark _)))))))))))))), pure_law_turns_so h⟩
/-- the law's outer loop: over [c] + script[:z] -/
theorem law_frameN {BODY : TS} {c z : Int} {N : Nat} {m : Nat} {a : Addr} {ns : List Int} {H : Hp} {Q : VK} {n0 : L2.St → Hp → Prop} {bk ct : L2.St → Hp → Prop} (hz : z = N) (hn : ns.length ≤ 63) (ha : SqL K H a (ns.map V.int)) (q : ∀ H', Q (.bl true) H')
    (body : ∀ (cell : Int) (l : List (Option V)) (H3 H4 : Hp) (nx : L2.St → Hp → Prop), l.length = m → Same H3 H4 →
      BODY ⟨fun σ' H' => Same H3 H' ∧ ∃ l' : List (Option V), l'.length = m + 1 ∧ σ' = some (.ref a) :: l', Q, nx, fun σ' H' => Same H3 H' ∧ ∃ l' : List (Option V), l'.length = m + 1 ∧ σ' = some (.ref a) :: l'⟩ (some (.ref a) :: some (.int cell) :: l) H4) :
    tSeq (tFor (iList K (tOp rCat (tLst (tCons (tC (.int c)) tNil)) (tSl (rSlL K) (tVar 0) tNoPart (tPart (tC (.int z)))))) (gName 1) BODY) (tRet (tC (.bl true))) ⟨n0, Q, bk, ct⟩ (some (.ref a) :: List.replicate (m + 1) none) H := by
  wtm_at "s"
  refine ⟨sz (by simp), fun l1 n1 => ?_⟩
  have s1 := same_new (o := .lst [.int c]) n1
  have e1 := upd_same (H := H) (a := l1) (o := .lst [.int c])
  generalize upd H l1 (.lst [.int c]) = H1 at s1 e1 ⊢
  wtm_at "s"
  refine ⟨a, _, rfl, s1.seq ha, fun l2 n2 => ?_⟩
  rw [hz, cutTo N]
  have s2 := same_new (o := .lst ((ns.take N).map V.int)) n2
  have e2 := upd_same (H := H1) (a := l2) (o := .lst ((ns.take N).map V.int))
  generalize upd H1 l2 (.lst ((ns.take N).map V.int)) = H2 at s2 e2 ⊢
  refine k_cat (s2 _ _ e1) e2 (by simp; omega) (fun l3 n3 => ?_)
  have e3 : upd H2 l3 (.lst ([.int c] ++ (ns.take N).map V.int)) l3 = some (.lst ((c :: ns.take N).map V.int)) := upd_same
  generalize upd H2 l3 (.lst ([.int c] ++ (ns.take N).map V.int)) = H3 at e3 ⊢
  wtm_at "s"
  refine forL (sl e3) (fun i σ' H' => Same H3 H' ∧ ∃ l' : List (Option V), l'.length = m + 1 ∧ σ' = some (.ref a) :: l') ⟨Same.refl _, List.replicate (m + 1) none, by simp, rfl⟩ (fun i σ' H' _ e => e.1.seq (sl e3)) ?_ ?_
  · rintro i x σ' H4 hx ⟨sm, l', hl', rfl⟩
    rw [List.getElem?_map] at hx
    obtain ⟨cell, _, rfl⟩ := Option.map_eq_some_iff.mp hx
    cases l' with
    | nil => simp at hl'
    | cons y l => exact body cell l H3 H4 _ (by simpa using hl') sm
  · rintro σ' H' ⟨sm, l', hl', rfl⟩
    wtm_at "s"
    exact q _


def sp_law (K : PySem.W.Frag) : Sp := fun vs H Q _ => ∃ (a : Addr) (ns : List Int), vs = [.ref a] ∧ SqL K H a (ns.map V.int) ∧ ns.length ≤ 63 ∧ ∀ H', Q (.bl true) H'
def t_law (K : PySem.W.Frag) : TS :=
  (tSeq (tFor (iList K (tOp rCat (tLst (tCons (tC (.int 241)) tNil)) (tSl (rSlL K) (tVar 0) tNoPart (tPart (tC (.int 4)))))) (gName 1)
      (tSeq (tAsg (tCall (sp_law_left K) [] E0 (tCons (tVar 1) tNil)) (gName 2))
    (tFor (iRng1 (tCons (tC (.int 3)) tNil)) (gName 3)
      (tIfS (tOr (tNot (tB (tCall (sp_law_fewest_so K) [] E0 (tCons (tVar 2) tNil)))) (tNot (tB (tCall (sp_law_turns_so K) [] E0 (tCons (tVar 2) tNil))))) (tRet (tC (.bl false))) tNext))))
    (tRet (tC (.bl true))))
theorem pure_law {v0 : V} {H : Hp} {Q : VK} (h : ∃ (a : Addr) (ns : List Int), v0 = .ref a ∧ SqL K H a (ns.map V.int) ∧ ns.length ≤ 63 ∧ ∀ H', Q (.bl true) H') : t_law K ⟨fun _ H' => Q .non H', Q, fun _ _ => False, fun _ _ => False⟩ [some v0, none, none, none] H := by
  obtain ⟨a, ns, rfl, ha, hz, q⟩ := h
  unfold t_law
  refine law_frameN (m := 2) (N := 4) rfl hz ha q ?_
  clear ha hz q H ns
  intro cell l H3 H4 nx hl sm
  match l, hl with
  | [k2, k3], _ =>
  wtm_at "s"
  refine ⟨_, rfl, cell, rfl, fun pu H5 npu s5 L5 => ?_⟩
  have h0 : Same H4 (hid [pu] H5) := (hid_free1 npu).trans (hid_mono s5)
  wtm_at "s"
  refine forR (fun i σ' H' => ∃ kk k3, Le H' pu kk ∧ kk ≤ 1000 * (i : Nat) ∧ Same (hid [pu] H5) (hid [pu] H') ∧ σ' = [some (.ref a), some (.int cell), some (.ref pu), k3]) ⟨0, _, L5, by omega, Same.refl _, rfl⟩ ?_ ?_
  · rintro i σ' H6 hi ⟨kk, k3, L6, hkk, S6, rfl⟩
    have hi3 : i < 3 := hi
    wtm_at "s"
    refine ⟨_, rfl, pu, kk, rfl, L6, by omega, fun H7 k7 L7 h7 S7 => ?_⟩
    wtm_at "s"
    refine ⟨_, rfl, pu, k7, rfl, L7, by omega, fun H8 k8 L8 h8 S8 => ?_⟩
    wtm_at "s"
    exact ⟨k8, _, L8, by omega, S6.trans (S7.trans S8), rfl⟩
  · rintro σ' H6 ⟨kk, k3, L6, hkk, S6, rfl⟩
    wtm_at "s"
    exact ⟨sm.trans (h0.trans (S6.trans (hid_same _ _))), _, rfl, rfl⟩
theorem ok_law (T : Txt K mg A) : FnOk P w K mg base CX0 20 A.a_law A.d_law ["_law_script"] (sp_law K) := by
  refine T.F_law.ok sc_law (fun vs H Q E h => by obtain ⟨a, ns, rfl, _⟩ := h; rfl) (fun cdv A0 outer s H vs Q E hr h => ?_)
  obtain ⟨a, ns, rfl, h⟩ := h
  exact ⟨t_law K, (pss_cons (ps_for PassesOwn.never rfl (pi_list (pe_op op_cat (pe_lst (pa_cons pe_int pa_nil)) (pe_slice sl_list (pv 0) po_none (po_some pe_int)))) (pg_name (i := 1) sc_law.nd rfl (Or.inl rfl))
      (pss_cons (ps_set (i := 2) sc_law.nd rfl (Or.inl rfl) (pe_call (ok_law_left T) (hr.mono (by decide)) (by rfl) T.g_law_left T.F_law_left.kp T.b_law_left .nil pass0 (pa_cons (pv 1) pa_nil)))
      (pss_one (ps_for PassesOwn.never rfl (pi_range1 (by rfl) T.z_range (pa_cons pe_int pa_nil)) (pg_name (i := 3) sc_law.nd rfl (Or.inl rfl))
      (pss_one (ps_if (PW.pt (pw_or (pt_not (pt_val (pe_call (ok_law_fewest_so T) (hr.mono (by decide)) (by rfl) T.g_law_fewest_so T.F_law_fewest_so.kp T.b_law_fewest_so .nil pass0 (pa_cons (pv 2) pa_nil)))) (pw_or1 (pt_not (pt_val (pe_call (ok_law_turns_so T) (hr.mono (by decide)) (by rfl) T.g_law_turns_so T.F_law_turns_so.kp T.b_law_turns_so .nil pass0 (pa_cons (pv 2) pa_nil))))))) (pss_one (ps_ret pe_bl)) pss_nil))))))
      (pss_one (ps_ret pe_bl))), pure_law ⟨a, ns, rfl, h⟩⟩

theorem all_mk {l : PySem.W.OpenLaw} {w : World} {K : PySem.W.Frag} {h : Heap} {mg : Str → Option Value} {fa : Addr} {f0 f1 f2 f3 f4 f5 f6 f7 f8 f9 f10 f11 f12 f13 f14 f15 f16 f17 f18 f19 f20 f21 f22 f23 f24 f25 f26 f27 f28 f29 f30 f31 f32 f33 f34 f35 f36 f37 f38 f39 f40 f41 f42 f43 f44 f45 f46 f47 f48 f49 f50 f51 f52 f53 f54 f55 f56 f57 f58 f59 f60 : Addr} (X : K.In h) (G : h.Ns mainGlobals mg) (hfa : mg "law" = some (.ref fa))
    {od0 an0 od1 an1 od2 an2 od3 an3 od4 an4 od5 an5 od6 an6 od7 an7 od8 an8 od9 an9 od10 an10 od11 an11 od12 an12 od13 an13 od14 an14 od15 an15 od16 an16 od17 an17 od18 an18 od19 an19 od20 an20 od21 an21 od22 an22 od23 an23 od24 an24 od25 an25 od26 an26 od27 an27 od28 an28 od29 an29 od30 an30 od31 an31 od32 an32 od33 an33 od34 an34 od35 an35 od36 an36 od37 an37 od38 an38 od39 an39 od40 an40 od41 an41 od42 an42 od43 an43 od44 an44 od45 an45 od46 an46 od47 an47 od48 an48 od49 an49 od50 an50 od51 an51 od52 an52 od53 an53 od54 an54 od55 an55 od56 an56 od57 an57 od58 an58 od59 an59 od60 an60 : Option Addr} {sl0 sl1 sl2 sl3 sl4 sl5 sl6 sl7 sl8 sl9 sl10 sl11 sl12 sl13 sl14 sl15 sl16 sl17 sl18 sl19 sl20 sl21 sl22 sl23 sl24 sl25 sl26 sl27 sl28 sl29 sl30 sl31 sl32 sl33 sl34 sl35 sl36 sl37 sl38 sl39 sl40 sl41 sl42 sl43 sl44 sl45 sl46 sl47 sl48 sl49 sl50 sl51 sl52 sl53 sl54 sl55 sl56 sl57 sl58 sl59 sl60 : Array (Option Value)} {oc0 kV0 dc0 pm0 cd0 ct0 oc1 kV1 dc1 pm1 cd1 ct1 oc2 kV2 dc2 pm2 cd2 ct2 oc3 kV3 dc3 pm3 cd3 ct3 oc4 kV4 dc4 pm4 cd4 ct4 oc5 kV5 dc5 pm5 cd5 ct5 oc6 kV6 dc6 pm6 cd6 ct6 oc7 kV7 dc7 pm7 cd7 ct7 oc8 kV8 dc8 pm8 cd8 ct8 oc9 kV9 dc9 pm9 cd9 ct9 oc10 kV10 dc10 pm10 cd10 ct10 oc11 kV11 dc11 pm11 cd11 ct11 oc12 kV12 dc12 pm12 cd12 ct12 oc13 kV13 dc13 pm13 cd13 ct13 oc14 kV14 dc14 pm14 cd14 ct14 oc15 kV15 dc15 pm15 cd15 ct15 oc16 kV16 dc16 pm16 cd16 ct16 oc17 kV17 dc17 pm17 cd17 ct17 oc18 kV18 dc18 pm18 cd18 ct18 oc19 kV19 dc19 pm19 cd19 ct19 oc20 kV20 dc20 pm20 cd20 ct20 oc21 kV21 dc21 pm21 cd21 ct21 oc22 kV22 dc22 pm22 cd22 ct22 oc23 kV23 dc23 pm23 cd23 ct23 oc24 kV24 dc24 pm24 cd24 ct24 oc25 kV25 dc25 pm25 cd25 ct25 oc26 kV26 dc26 pm26 cd26 ct26 oc27 kV27 dc27 pm27 cd27 ct27 oc28 kV28 dc28 pm28 cd28 ct28 oc29 kV29 dc29 pm29 cd29 ct29 oc30 kV30 dc30 pm30 cd30 ct30 oc31 kV31 dc31 pm31 cd31 ct31 oc32 kV32 dc32 pm32 cd32 ct32 oc33 kV33 dc33 pm33 cd33 ct33 oc34 kV34 dc34 pm34 cd34 ct34 oc35 kV35 dc35 pm35 cd35 ct35 oc36 kV36 dc36 pm36 cd36 ct36 oc37 kV37 dc37 pm37 cd37 ct37 oc38 kV38 dc38 pm38 cd38 ct38 oc39 kV39 dc39 pm39 cd39 ct39 oc40 kV40 dc40 pm40 cd40 ct40 oc41 kV41 dc41 pm41 cd41 ct41 oc42 kV42 dc42 pm42 cd42 ct42 oc43 kV43 dc43 pm43 cd43 ct43 oc44 kV44 dc44 pm44 cd44 ct44 oc45 kV45 dc45 pm45 cd45 ct45 oc46 kV46 dc46 pm46 cd46 ct46 oc47 kV47 dc47 pm47 cd47 ct47 oc48 kV48 dc48 pm48 cd48 ct48 oc49 kV49 dc49 pm49 cd49 ct49 oc50 kV50 dc50 pm50 cd50 ct50 oc51 kV51 dc51 pm51 cd51 ct51 oc52 kV52 dc52 pm52 cd52 ct52 oc53 kV53 dc53 pm53 cd53 ct53 oc54 kV54 dc54 pm54 cd54 ct54 oc55 kV55 dc55 pm55 cd55 ct55 oc56 kV56 dc56 pm56 cd56 ct56 oc57 kV57 dc57 pm57 cd57 ct57 oc58 kV58 dc58 pm58 cd58 ct58 oc59 kV59 dc59 pm59 cd59 ct59 oc60 kV60 dc60 pm60 cd60 ct60 : Value}
    {tk0 tk1 tk2 tk3 tk4 : Tok}
    (a0 : PySem.W.nsIn K mainGlobals "is_tree" = some (some (.ref f0))) (l0 : K.lookup f0 = some ⟨oc0, od0, .func (PySem.W.fnOf "is_tree" "is_tree" (defArgs s_is_tree) (defBody s_is_tree) (defScope s_is_tree) .none kV0 dc0 pm0 an0 cd0 ct0), sl0⟩) (c0 : PySem.W.codeIn K cd0 "is_tree" = true) (k0 : PySem.W.keepIn K (.ref f0) = true)
    (a1 : PySem.W.nsIn K mainGlobals "look_net" = some (some (.ref f1))) (l1 : K.lookup f1 = some ⟨oc1, od1, .func (PySem.W.fnOf "look_net" "look_net" (defArgs s_look_net) (defBody s_look_net) (defScope s_look_net) .none kV1 dc1 pm1 an1 cd1 ct1), sl1⟩) (c1 : PySem.W.codeIn K cd1 "look_net" = true) (k1 : PySem.W.keepIn K (.ref f1) = true)
    (a2 : PySem.W.nsIn K mainGlobals "must_be_kind" = some (some (.ref f2))) (l2 : K.lookup f2 = some ⟨oc2, od2, .func (PySem.W.fnOf "must_be_kind" "must_be_kind" (defArgs s_must_be_kind) (defBody s_must_be_kind) (defScope s_must_be_kind) .none kV2 dc2 pm2 an2 cd2 ct2), sl2⟩) (c2 : PySem.W.codeIn K cd2 "must_be_kind" = true) (k2 : PySem.W.keepIn K (.ref f2) = true)
    (a3 : PySem.W.nsIn K mainGlobals "places_of" = some (some (.ref f3))) (l3 : K.lookup f3 = some ⟨oc3, od3, .func (PySem.W.fnOf "places_of" "places_of" (defArgs s_places_of) (defBody s_places_of) (defScope s_places_of) .none kV3 dc3 pm3 an3 cd3 ct3), sl3⟩) (c3 : PySem.W.codeIn K cd3 "places_of" = true) (k3 : PySem.W.keepIn K (.ref f3) = true)
    (a4 : PySem.W.nsIn K mainGlobals "ties_many" = some (some (.ref f4))) (l4 : K.lookup f4 = some ⟨oc4, od4, .func (PySem.W.fnOf "ties_many" "ties_many" (defArgs s_ties_many) (defBody s_ties_many) (defScope s_ties_many) .none kV4 dc4 pm4 an4 cd4 ct4), sl4⟩) (c4 : PySem.W.codeIn K cd4 "ties_many" = true) (k4 : PySem.W.keepIn K (.ref f4) = true)
    (a5 : PySem.W.nsIn K mainGlobals "is_way" = some (some (.ref f5))) (l5 : K.lookup f5 = some ⟨oc5, od5, .func (PySem.W.fnOf "is_way" "is_way" (defArgs s_is_way) (defBody s_is_way) (defScope s_is_way) .none kV5 dc5 pm5 an5 cd5 ct5), sl5⟩) (c5 : PySem.W.codeIn K cd5 "is_way" = true) (k5 : PySem.W.keepIn K (.ref f5) = true)
    (a6 : PySem.W.nsIn K mainGlobals "ties_on" = some (some (.ref f6))) (l6 : K.lookup f6 = some ⟨oc6, od6, .func (PySem.W.fnOf "ties_on" "ties_on" (defArgs s_ties_on) (defBody s_ties_on) (defScope s_ties_on) .none kV6 dc6 pm6 an6 cd6 ct6), sl6⟩) (c6 : PySem.W.codeIn K cd6 "ties_on" = true) (k6 : PySem.W.keepIn K (.ref f6) = true)
    (a7 : PySem.W.nsIn K mainGlobals "must_be_ways" = some (some (.ref f7))) (l7 : K.lookup f7 = some ⟨oc7, od7, .func (PySem.W.fnOf "must_be_ways" "must_be_ways" (defArgs s_must_be_ways) (defBody s_must_be_ways) (defScope s_must_be_ways) .none kV7 dc7 pm7 an7 cd7 ct7), sl7⟩) (c7 : PySem.W.codeIn K cd7 "must_be_ways" = true) (k7 : PySem.W.keepIn K (.ref f7) = true)
    (a8 : PySem.W.nsIn K mainGlobals "look_ways" = some (some (.ref f8))) (l8 : K.lookup f8 = some ⟨oc8, od8, .func (PySem.W.fnOf "look_ways" "look_ways" (defArgs s_look_ways) (defBody s_look_ways) (defScope s_look_ways) .none kV8 dc8 pm8 an8 cd8 ct8), sl8⟩) (c8 : PySem.W.codeIn K cd8 "look_ways" = true) (k8 : PySem.W.keepIn K (.ref f8) = true)
    (a9 : PySem.W.nsIn K mainGlobals "look_ring" = some (some (.ref f9))) (l9 : K.lookup f9 = some ⟨oc9, od9, .func (PySem.W.fnOf "look_ring" "look_ring" (defArgs s_look_ring) (defBody s_look_ring) (defScope s_look_ring) .none kV9 dc9 pm9 an9 cd9 ct9), sl9⟩) (c9 : PySem.W.codeIn K cd9 "look_ring" = true) (k9 : PySem.W.keepIn K (.ref f9) = true)
    (a10 : PySem.W.nsIn K mainGlobals "counted" = some (some (.ref f10))) (l10 : K.lookup f10 = some ⟨oc10, od10, .func (PySem.W.fnOf "counted" "counted" (defArgs s_counted) (defBody s_counted) (defScope s_counted) .none kV10 dc10 pm10 an10 cd10 ct10), sl10⟩) (c10 : PySem.W.codeIn K cd10 "counted" = true) (k10 : PySem.W.keepIn K (.ref f10) = true)
    (a11 : PySem.W.nsIn K mainGlobals "loads" = some (some (.ref f11))) (l11 : K.lookup f11 = some ⟨oc11, od11, .func (PySem.W.fnOf "loads" "loads" (defArgs s_loads) (defBody s_loads) (defScope s_loads) .none kV11 dc11 pm11 an11 cd11 ct11), sl11⟩) (c11 : PySem.W.codeIn K cd11 "loads" = true) (k11 : PySem.W.keepIn K (.ref f11) = true)
    (a12 : PySem.W.nsIn K mainGlobals "first_clash" = some (some (.ref f12))) (l12 : K.lookup f12 = some ⟨oc12, od12, .func (PySem.W.fnOf "first_clash" "first_clash" (defArgs s_first_clash) (defBody s_first_clash) (defScope s_first_clash) .none kV12 dc12 pm12 an12 cd12 ct12), sl12⟩) (c12 : PySem.W.codeIn K cd12 "first_clash" = true) (k12 : PySem.W.keepIn K (.ref f12) = true)
    (a13 : PySem.W.nsIn K mainGlobals "clash" = some (some (.ref f13))) (l13 : K.lookup f13 = some ⟨oc13, od13, .func (PySem.W.fnOf "clash" "clash" (defArgs s_clash) (defBody s_clash) (defScope s_clash) .none kV13 dc13 pm13 an13 cd13 ct13), sl13⟩) (c13 : PySem.W.codeIn K cd13 "clash" = true) (k13 : PySem.W.keepIn K (.ref f13) = true)
    (a14 : PySem.W.nsIn K mainGlobals "is_whole" = some (some (.ref f14))) (l14 : K.lookup f14 = some ⟨oc14, od14, .func (PySem.W.fnOf "is_whole" "is_whole" (defArgs s_is_whole) (defBody s_is_whole) (defScope s_is_whole) .none kV14 dc14 pm14 an14 cd14 ct14), sl14⟩) (c14 : PySem.W.codeIn K cd14 "is_whole" = true) (k14 : PySem.W.keepIn K (.ref f14) = true)
    (a15 : PySem.W.nsIn K mainGlobals "have_common" = some (some (.ref f15))) (l15 : K.lookup f15 = some ⟨oc15, od15, .func (PySem.W.fnOf "have_common" "have_common" (defArgs s_have_common) (defBody s_have_common) (defScope s_have_common) .none kV15 dc15 pm15 an15 cd15 ct15), sl15⟩) (c15 : PySem.W.codeIn K cd15 "have_common" = true) (k15 : PySem.W.keepIn K (.ref f15) = true)
    (a16 : PySem.W.nsIn K mainGlobals "meetings" = some (some (.ref f16))) (l16 : K.lookup f16 = some ⟨oc16, od16, .func (PySem.W.fnOf "meetings" "meetings" (defArgs s_meetings) (defBody s_meetings) (defScope s_meetings) .none kV16 dc16 pm16 an16 cd16 ct16), sl16⟩) (c16 : PySem.W.codeIn K cd16 "meetings" = true) (k16 : PySem.W.keepIn K (.ref f16) = true)
    (a17 : PySem.W.nsIn K mainGlobals "look_few" = some (some (.ref f17))) (l17 : K.lookup f17 = some ⟨oc17, od17, .func (PySem.W.fnOf "look_few" "look_few" (defArgs s_look_few) (defBody s_look_few) (defScope s_look_few) .none kV17 dc17 pm17 an17 cd17 ct17), sl17⟩) (c17 : PySem.W.codeIn K cd17 "look_few" = true) (k17 : PySem.W.keepIn K (.ref f17) = true)
    (a18 : PySem.W.nsIn K mainGlobals "look_number" = some (some (.ref f18))) (l18 : K.lookup f18 = some ⟨oc18, od18, .func (PySem.W.fnOf "look_number" "look_number" (defArgs s_look_number) (defBody s_look_number) (defScope s_look_number) .none kV18 dc18 pm18 an18 cd18 ct18), sl18⟩) (c18 : PySem.W.codeIn K cd18 "look_number" = true) (k18 : PySem.W.keepIn K (.ref f18) = true)
    (a19 : PySem.W.nsIn K mainGlobals "options" = some (some (.ref f19))) (l19 : K.lookup f19 = some ⟨oc19, od19, .func (PySem.W.fnOf "options" "options" (defArgs s_options) (defBody s_options) (defScope s_options) .none kV19 dc19 pm19 an19 cd19 ct19), sl19⟩) (c19 : PySem.W.codeIn K cd19 "options" = true) (k19 : PySem.W.keepIn K (.ref f19) = true)
    (a20 : PySem.W.nsIn K mainGlobals "is_stuck" = some (some (.ref f20))) (l20 : K.lookup f20 = some ⟨oc20, od20, .func (PySem.W.fnOf "is_stuck" "is_stuck" (defArgs s_is_stuck) (defBody s_is_stuck) (defScope s_is_stuck) .none kV20 dc20 pm20 an20 cd20 ct20), sl20⟩) (c20 : PySem.W.codeIn K cd20 "is_stuck" = true) (k20 : PySem.W.keepIn K (.ref f20) = true)
    (a21 : PySem.W.nsIn K mainGlobals "with_hue" = some (some (.ref f21))) (l21 : K.lookup f21 = some ⟨oc21, od21, .func (PySem.W.fnOf "with_hue" "with_hue" (defArgs s_with_hue) (defBody s_with_hue) (defScope s_with_hue) .none kV21 dc21 pm21 an21 cd21 ct21), sl21⟩) (c21 : PySem.W.codeIn K cd21 "with_hue" = true) (k21 : PySem.W.keepIn K (.ref f21) = true)
    (a22 : PySem.W.nsIn K mainGlobals "is_right" = some (some (.ref f22))) (l22 : K.lookup f22 = some ⟨oc22, od22, .func (PySem.W.fnOf "is_right" "is_right" (defArgs s_is_right) (defBody s_is_right) (defScope s_is_right) .none kV22 dc22 pm22 an22 cd22 ct22), sl22⟩) (c22 : PySem.W.codeIn K cd22 "is_right" = true) (k22 : PySem.W.keepIn K (.ref f22) = true)
    (a23 : PySem.W.nsIn K mainGlobals "must_be_crossing" = some (some (.ref f23))) (l23 : K.lookup f23 = some ⟨oc23, od23, .func (PySem.W.fnOf "must_be_crossing" "must_be_crossing" (defArgs s_must_be_crossing) (defBody s_must_be_crossing) (defScope s_must_be_crossing) .none kV23 dc23 pm23 an23 cd23 ct23), sl23⟩) (c23 : PySem.W.codeIn K cd23 "must_be_crossing" = true) (k23 : PySem.W.keepIn K (.ref f23) = true)
    (a24 : PySem.W.nsIn K mainGlobals "is_lot" = some (some (.ref f24))) (l24 : K.lookup f24 = some ⟨oc24, od24, .func (PySem.W.fnOf "is_lot" "is_lot" (defArgs s_is_lot) (defBody s_is_lot) (defScope s_is_lot) .none kV24 dc24 pm24 an24 cd24 ct24), sl24⟩) (c24 : PySem.W.codeIn K cd24 "is_lot" = true) (k24 : PySem.W.keepIn K (.ref f24) = true)
    (a25 : PySem.W.nsIn K mainGlobals "bound_of" = some (some (.ref f25))) (l25 : K.lookup f25 = some ⟨oc25, od25, .func (PySem.W.fnOf "bound_of" "bound_of" (defArgs s_bound_of) (defBody s_bound_of) (defScope s_bound_of) .none kV25 dc25 pm25 an25 cd25 ct25), sl25⟩) (c25 : PySem.W.codeIn K cd25 "bound_of" = true) (k25 : PySem.W.keepIn K (.ref f25) = true)
    (a26 : PySem.W.nsIn K mainGlobals "lot_bound" = some (some (.ref f26))) (l26 : K.lookup f26 = some ⟨oc26, od26, .func (PySem.W.fnOf "lot_bound" "lot_bound" (defArgs s_lot_bound) (defBody s_lot_bound) (defScope s_lot_bound) .none kV26 dc26 pm26 an26 cd26 ct26), sl26⟩) (c26 : PySem.W.codeIn K cd26 "lot_bound" = true) (k26 : PySem.W.keepIn K (.ref f26) = true)
    (a27 : PySem.W.nsIn K mainGlobals "ties_at" = some (some (.ref f27))) (l27 : K.lookup f27 = some ⟨oc27, od27, .func (PySem.W.fnOf "ties_at" "ties_at" (defArgs s_ties_at) (defBody s_ties_at) (defScope s_ties_at) .none kV27 dc27 pm27 an27 cd27 ct27), sl27⟩) (c27 : PySem.W.codeIn K cd27 "ties_at" = true) (k27 : PySem.W.keepIn K (.ref f27) = true)
    (a28 : PySem.W.nsIn K mainGlobals "crossing_of" = some (some (.ref f28))) (l28 : K.lookup f28 = some ⟨oc28, od28, .func (PySem.W.fnOf "crossing_of" "crossing_of" (defArgs s_crossing_of) (defBody s_crossing_of) (defScope s_crossing_of) .none kV28 dc28 pm28 an28 cd28 ct28), sl28⟩) (c28 : PySem.W.codeIn K cd28 "crossing_of" = true) (k28 : PySem.W.keepIn K (.ref f28) = true)
    (a29 : PySem.W.nsIn K mainGlobals "crossing_at" = some (some (.ref f29))) (l29 : K.lookup f29 = some ⟨oc29, od29, .func (PySem.W.fnOf "crossing_at" "crossing_at" (defArgs s_crossing_at) (defBody s_crossing_at) (defScope s_crossing_at) .none kV29 dc29 pm29 an29 cd29 ct29), sl29⟩) (c29 : PySem.W.codeIn K cd29 "crossing_at" = true) (k29 : PySem.W.keepIn K (.ref f29) = true)
    (a30 : PySem.W.nsIn K mainGlobals "are_hues" = some (some (.ref f30))) (l30 : K.lookup f30 = some ⟨oc30, od30, .func (PySem.W.fnOf "are_hues" "are_hues" (defArgs s_are_hues) (defBody s_are_hues) (defScope s_are_hues) .none kV30 dc30 pm30 an30 cd30 ct30), sl30⟩) (c30 : PySem.W.codeIn K cd30 "are_hues" = true) (k30 : PySem.W.keepIn K (.ref f30) = true)
    (a31 : PySem.W.nsIn K mainGlobals "shows_tie" = some (some (.ref f31))) (l31 : K.lookup f31 = some ⟨oc31, od31, .func (PySem.W.fnOf "shows_tie" "shows_tie" (defArgs s_shows_tie) (defBody s_shows_tie) (defScope s_shows_tie) .none kV31 dc31 pm31 an31 cd31 ct31), sl31⟩) (c31 : PySem.W.codeIn K cd31 "shows_tie" = true) (k31 : PySem.W.keepIn K (.ref f31) = true)
    (a32 : PySem.W.nsIn K mainGlobals "shows_lot" = some (some (.ref f32))) (l32 : K.lookup f32 = some ⟨oc32, od32, .func (PySem.W.fnOf "shows_lot" "shows_lot" (defArgs s_shows_lot) (defBody s_shows_lot) (defScope s_shows_lot) .none kV32 dc32 pm32 an32 cd32 ct32), sl32⟩) (c32 : PySem.W.codeIn K cd32 "shows_lot" = true) (k32 : PySem.W.keepIn K (.ref f32) = true)
    (a33 : PySem.W.nsIn K mainGlobals "shows_fewest" = some (some (.ref f33))) (l33 : K.lookup f33 = some ⟨oc33, od33, .func (PySem.W.fnOf "shows_fewest" "shows_fewest" (defArgs s_shows_fewest) (defBody s_shows_fewest) (defScope s_shows_fewest) .none kV33 dc33 pm33 an33 cd33 ct33), sl33⟩) (c33 : PySem.W.codeIn K cd33 "shows_fewest" = true) (k33 : PySem.W.keepIn K (.ref f33) = true)
    (a34 : PySem.W.nsIn K mainGlobals "fewest_judged" = some (some (.ref f34))) (l34 : K.lookup f34 = some ⟨oc34, od34, .func (PySem.W.fnOf "fewest_judged" "fewest_judged" (defArgs s_fewest_judged) (defBody s_fewest_judged) (defScope s_fewest_judged) .none kV34 dc34 pm34 an34 cd34 ct34), sl34⟩) (c34 : PySem.W.codeIn K cd34 "fewest_judged" = true) (k34 : PySem.W.keepIn K (.ref f34) = true)
    (a35 : PySem.W.nsIn K mainGlobals "lying" = some (some (.ref f35))) (l35 : K.lookup f35 = some ⟨oc35, od35, .func (PySem.W.fnOf "lying" "lying" (defArgs s_lying) (defBody s_lying) (defScope s_lying) .none kV35 dc35 pm35 an35 cd35 ct35), sl35⟩) (c35 : PySem.W.codeIn K cd35 "lying" = true) (k35 : PySem.W.keepIn K (.ref f35) = true)
    (a36 : PySem.W.nsIn K mainGlobals "sum_at" = some (some (.ref f36))) (l36 : K.lookup f36 = some ⟨oc36, od36, .func (PySem.W.fnOf "sum_at" "sum_at" (defArgs s_sum_at) (defBody s_sum_at) (defScope s_sum_at) .none kV36 dc36 pm36 an36 cd36 ct36), sl36⟩) (c36 : PySem.W.codeIn K cd36 "sum_at" = true) (k36 : PySem.W.keepIn K (.ref f36) = true)
    (a37 : PySem.W.nsIn K mainGlobals "settle" = some (some (.ref f37))) (l37 : K.lookup f37 = some ⟨oc37, od37, .func (PySem.W.fnOf "settle" "settle" (defArgs s_settle) (defBody s_settle) (defScope s_settle) .none kV37 dc37 pm37 an37 cd37 ct37), sl37⟩) (c37 : PySem.W.codeIn K cd37 "settle" = true) (k37 : PySem.W.keepIn K (.ref f37) = true)
    (a38 : PySem.W.nsIn K mainGlobals "is_turn_paper" = some (some (.ref f38))) (l38 : K.lookup f38 = some ⟨oc38, od38, .func (PySem.W.fnOf "is_turn_paper" "is_turn_paper" (defArgs s_is_turn_paper) (defBody s_is_turn_paper) (defScope s_is_turn_paper) .none kV38 dc38 pm38 an38 cd38 ct38), sl38⟩) (c38 : PySem.W.codeIn K cd38 "is_turn_paper" = true) (k38 : PySem.W.keepIn K (.ref f38) = true)
    (a39 : PySem.W.nsIn K mainGlobals "turn_judged" = some (some (.ref f39))) (l39 : K.lookup f39 = some ⟨oc39, od39, .func (PySem.W.fnOf "turn_judged" "turn_judged" (defArgs s_turn_judged) (defBody s_turn_judged) (defScope s_turn_judged) .none kV39 dc39 pm39 an39 cd39 ct39), sl39⟩) (c39 : PySem.W.codeIn K cd39 "turn_judged" = true) (k39 : PySem.W.keepIn K (.ref f39) = true)
    (a40 : PySem.W.nsIn K mainGlobals "_law_mix" = some (some (.ref f40))) (l40 : K.lookup f40 = some ⟨oc40, od40, .func (PySem.W.fnOf "_law_mix" "_law_mix" (defArgs s_law_mix) (defBody s_law_mix) (defScope s_law_mix) .none kV40 dc40 pm40 an40 cd40 ct40), sl40⟩) (c40 : PySem.W.codeIn K cd40 "_law_mix" = true) (k40 : PySem.W.keepIn K (.ref f40) = true)
    (a41 : PySem.W.nsIn K mainGlobals "_law_left" = some (some (.ref f41))) (l41 : K.lookup f41 = some ⟨oc41, od41, .func (PySem.W.fnOf "_law_left" "_law_left" (defArgs s_law_left) (defBody s_law_left) (defScope s_law_left) .none kV41 dc41 pm41 an41 cd41 ct41), sl41⟩) (c41 : PySem.W.codeIn K cd41 "_law_left" = true) (k41 : PySem.W.keepIn K (.ref f41) = true)
    (a42 : PySem.W.nsIn K mainGlobals "_law_draw" = some (some (.ref f42))) (l42 : K.lookup f42 = some ⟨oc42, od42, .func (PySem.W.fnOf "_law_draw" "_law_draw" (defArgs s_law_draw) (defBody s_law_draw) (defScope s_law_draw) .none kV42 dc42 pm42 an42 cd42 ct42), sl42⟩) (c42 : PySem.W.codeIn K cd42 "_law_draw" = true) (k42 : PySem.W.keepIn K (.ref f42) = true)
    (a43 : PySem.W.nsIn K mainGlobals "_law_whole" = some (some (.ref f43))) (l43 : K.lookup f43 = some ⟨oc43, od43, .func (PySem.W.fnOf "_law_whole" "_law_whole" (defArgs s_law_whole) (defBody s_law_whole) (defScope s_law_whole) .none kV43 dc43 pm43 an43 cd43 ct43), sl43⟩) (c43 : PySem.W.codeIn K cd43 "_law_whole" = true) (k43 : PySem.W.keepIn K (.ref f43) = true)
    (a44 : PySem.W.nsIn K mainGlobals "_law_places" = some (some (.ref f44))) (l44 : K.lookup f44 = some ⟨oc44, od44, .func (PySem.W.fnOf "_law_places" "_law_places" (defArgs s_law_places) (defBody s_law_places) (defScope s_law_places) .none kV44 dc44 pm44 an44 cd44 ct44), sl44⟩) (c44 : PySem.W.codeIn K cd44 "_law_places" = true) (k44 : PySem.W.keepIn K (.ref f44) = true)
    (a45 : PySem.W.nsIn K mainGlobals "_law_up" = some (some (.ref f45))) (l45 : K.lookup f45 = some ⟨oc45, od45, .func (PySem.W.fnOf "_law_up" "_law_up" (defArgs s_law_up) (defBody s_law_up) (defScope s_law_up) .none kV45 dc45 pm45 an45 cd45 ct45), sl45⟩) (c45 : PySem.W.codeIn K cd45 "_law_up" = true) (k45 : PySem.W.keepIn K (.ref f45) = true)
    (a46 : PySem.W.nsIn K mainGlobals "_law_ties" = some (some (.ref f46))) (l46 : K.lookup f46 = some ⟨oc46, od46, .func (PySem.W.fnOf "_law_ties" "_law_ties" (defArgs s_law_ties) (defBody s_law_ties) (defScope s_law_ties) .none kV46 dc46 pm46 an46 cd46 ct46), sl46⟩) (c46 : PySem.W.codeIn K cd46 "_law_ties" = true) (k46 : PySem.W.keepIn K (.ref f46) = true)
    (a47 : PySem.W.nsIn K mainGlobals "_law_meet" = some (some (.ref f47))) (l47 : K.lookup f47 = some ⟨oc47, od47, .func (PySem.W.fnOf "_law_meet" "_law_meet" (defArgs s_law_meet) (defBody s_law_meet) (defScope s_law_meet) .none kV47 dc47 pm47 an47 cd47 ct47), sl47⟩) (c47 : PySem.W.codeIn K cd47 "_law_meet" = true) (k47 : PySem.W.keepIn K (.ref f47) = true)
    (a48 : PySem.W.nsIn K mainGlobals "_law_meets" = some (some (.ref f48))) (l48 : K.lookup f48 = some ⟨oc48, od48, .func (PySem.W.fnOf "_law_meets" "_law_meets" (defArgs s_law_meets) (defBody s_law_meets) (defScope s_law_meets) .none kV48 dc48 pm48 an48 cd48 ct48), sl48⟩) (c48 : PySem.W.codeIn K cd48 "_law_meets" = true) (k48 : PySem.W.keepIn K (.ref f48) = true)
    (a49 : PySem.W.nsIn K mainGlobals "_law_hues_are_so" = some (some (.ref f49))) (l49 : K.lookup f49 = some ⟨oc49, od49, .func (PySem.W.fnOf "_law_hues_are_so" "_law_hues_are_so" (defArgs s_law_hues_are_so) (defBody s_law_hues_are_so) (defScope s_law_hues_are_so) .none kV49 dc49 pm49 an49 cd49 ct49), sl49⟩) (c49 : PySem.W.codeIn K cd49 "_law_hues_are_so" = true) (k49 : PySem.W.keepIn K (.ref f49) = true)
    (a50 : PySem.W.nsIn K mainGlobals "_law_sum" = some (some (.ref f50))) (l50 : K.lookup f50 = some ⟨oc50, od50, .func (PySem.W.fnOf "_law_sum" "_law_sum" (defArgs s_law_sum) (defBody s_law_sum) (defScope s_law_sum) .none kV50 dc50 pm50 an50 cd50 ct50), sl50⟩) (c50 : PySem.W.codeIn K cd50 "_law_sum" = true) (k50 : PySem.W.keepIn K (.ref f50) = true)
    (a51 : PySem.W.nsIn K mainGlobals "_law_turn_right" = some (some (.ref f51))) (l51 : K.lookup f51 = some ⟨oc51, od51, .func (PySem.W.fnOf "_law_turn_right" "_law_turn_right" (defArgs s_law_turn_right) (defBody s_law_turn_right) (defScope s_law_turn_right) .none kV51 dc51 pm51 an51 cd51 ct51), sl51⟩) (c51 : PySem.W.codeIn K cd51 "_law_turn_right" = true) (k51 : PySem.W.keepIn K (.ref f51) = true)
    (a52 : PySem.W.nsIn K mainGlobals "_law_net" = some (some (.ref f52))) (l52 : K.lookup f52 = some ⟨oc52, od52, .func (PySem.W.fnOf "_law_net" "_law_net" (defArgs s_law_net) (defBody s_law_net) (defScope s_law_net) .none kV52 dc52 pm52 an52 cd52 ct52), sl52⟩) (c52 : PySem.W.codeIn K cd52 "_law_net" = true) (k52 : PySem.W.keepIn K (.ref f52) = true)
    (a53 : PySem.W.nsIn K mainGlobals "_law_ways" = some (some (.ref f53))) (l53 : K.lookup f53 = some ⟨oc53, od53, .func (PySem.W.fnOf "_law_ways" "_law_ways" (defArgs s_law_ways) (defBody s_law_ways) (defScope s_law_ways) .none kV53 dc53 pm53 an53 cd53 ct53), sl53⟩) (c53 : PySem.W.codeIn K cd53 "_law_ways" = true) (k53 : PySem.W.keepIn K (.ref f53) = true)
    (a54 : PySem.W.nsIn K mainGlobals "_law_hued" = some (some (.ref f54))) (l54 : K.lookup f54 = some ⟨oc54, od54, .func (PySem.W.fnOf "_law_hued" "_law_hued" (defArgs s_law_hued) (defBody s_law_hued) (defScope s_law_hued) .none kV54 dc54 pm54 an54 cd54 ct54), sl54⟩) (c54 : PySem.W.codeIn K cd54 "_law_hued" = true) (k54 : PySem.W.keepIn K (.ref f54) = true)
    (a55 : PySem.W.nsIn K mainGlobals "_law_bent" = some (some (.ref f55))) (l55 : K.lookup f55 = some ⟨oc55, od55, .func (PySem.W.fnOf "_law_bent" "_law_bent" (defArgs s_law_bent) (defBody s_law_bent) (defScope s_law_bent) .none kV55 dc55 pm55 an55 cd55 ct55), sl55⟩) (c55 : PySem.W.codeIn K cd55 "_law_bent" = true) (k55 : PySem.W.keepIn K (.ref f55) = true)
    (a56 : PySem.W.nsIn K mainGlobals "_law_fewest_so" = some (some (.ref f56))) (l56 : K.lookup f56 = some ⟨oc56, od56, .func (PySem.W.fnOf "_law_fewest_so" "_law_fewest_so" (defArgs s_law_fewest_so) (defBody s_law_fewest_so) (defScope s_law_fewest_so) .none kV56 dc56 pm56 an56 cd56 ct56), sl56⟩) (c56 : PySem.W.codeIn K cd56 "_law_fewest_so" = true) (k56 : PySem.W.keepIn K (.ref f56) = true)
    (a57 : PySem.W.nsIn K mainGlobals "_law_leaf" = some (some (.ref f57))) (l57 : K.lookup f57 = some ⟨oc57, od57, .func (PySem.W.fnOf "_law_leaf" "_law_leaf" (defArgs s_law_leaf) (defBody s_law_leaf) (defScope s_law_leaf) .none kV57 dc57 pm57 an57 cd57 ct57), sl57⟩) (c57 : PySem.W.codeIn K cd57 "_law_leaf" = true) (k57 : PySem.W.keepIn K (.ref f57) = true)
    (a58 : PySem.W.nsIn K mainGlobals "_law_turn_paper" = some (some (.ref f58))) (l58 : K.lookup f58 = some ⟨oc58, od58, .func (PySem.W.fnOf "_law_turn_paper" "_law_turn_paper" (defArgs s_law_turn_paper) (defBody s_law_turn_paper) (defScope s_law_turn_paper) .none kV58 dc58 pm58 an58 cd58 ct58), sl58⟩) (c58 : PySem.W.codeIn K cd58 "_law_turn_paper" = true) (k58 : PySem.W.keepIn K (.ref f58) = true)
    (a59 : PySem.W.nsIn K mainGlobals "_law_turns_so" = some (some (.ref f59))) (l59 : K.lookup f59 = some ⟨oc59, od59, .func (PySem.W.fnOf "_law_turns_so" "_law_turns_so" (defArgs s_law_turns_so) (defBody s_law_turns_so) (defScope s_law_turns_so) .none kV59 dc59 pm59 an59 cd59 ct59), sl59⟩) (c59 : PySem.W.codeIn K cd59 "_law_turns_so" = true) (k59 : PySem.W.keepIn K (.ref f59) = true)
    (a60 : PySem.W.nsIn K mainGlobals "law" = some (some (.ref f60))) (l60 : K.lookup f60 = some ⟨oc60, od60, .func (PySem.W.fnOf "law" "law" (defArgs s_law) (defBody s_law) (defScope s_law) .none kV60 dc60 pm60 an60 cd60 ct60), sl60⟩) (c60 : PySem.W.codeIn K cd60 "law" = true) (k60 : PySem.W.keepIn K (.ref f60) = true)
    (e0 : PySem.W.nsIn K mainGlobals "MOST_PLACES" = some (some (.int 60 tk0)))
    (e1 : PySem.W.nsIn K mainGlobals "MOST_TIES" = some (some (.int 60 tk1)))
    (e2 : PySem.W.nsIn K mainGlobals "MOST_PAIRS" = some (some (.int 60 tk2)))
    (e3 : PySem.W.nsIn K mainGlobals "MOST_fewest" = some (some (.int 12 tk3)))
    (e4 : PySem.W.nsIn K mainGlobals "MOST_turning" = some (some (.int 14 tk4)))
    (z0 : PySem.W.nsIn K mainGlobals "bool" = some none)
    (z1 : PySem.W.nsIn K mainGlobals "dict" = some none)
    (z2 : PySem.W.nsIn K mainGlobals "enumerate" = some none)
    (z3 : PySem.W.nsIn K mainGlobals "int" = some none)
    (z4 : PySem.W.nsIn K mainGlobals "isinstance" = some none)
    (z5 : PySem.W.nsIn K mainGlobals "len" = some none)
    (z6 : PySem.W.nsIn K mainGlobals "list" = some none)
    (z7 : PySem.W.nsIn K mainGlobals "max" = some none)
    (z8 : PySem.W.nsIn K mainGlobals "min" = some none)
    (z9 : PySem.W.nsIn K mainGlobals "range" = some none)
    (z10 : PySem.W.nsIn K mainGlobals "set" = some none)
    (z11 : PySem.W.nsIn K mainGlobals "sorted" = some none)
    (z12 : PySem.W.nsIn K mainGlobals "str" = some none)
    (z13 : PySem.W.nsIn K mainGlobals "tuple" = some none)
    : ∃ fd : FuncData, (∀ (s : Shared) (v : Value), BindsTo s fd ⟨[v], []⟩ [("_law_script", v)]) ∧ ∀ base : Heap, K.In base → base.Ns mainGlobals mg → FnOk l.prog w K mg base CX0 20 fa fd ["_law_script"] (sp_law K) := by
  have e := hfa.symm.trans (PySem.W.mg_of X G a60)
  cases e
  have F0 := fun_mk (st := s_is_tree) l0 c0 k0
  have b0 := F0.binds (ps := ["parents"]) fun _ _ _ _ _ _ us hl => match us, hl with | [_], _ => rfl
  have F1 := fun_mk (st := s_look_net) l1 c1 k1
  have b1 := F1.binds (ps := ["net"]) fun _ _ _ _ _ _ us hl => match us, hl with | [_], _ => rfl
  have F2 := fun_mk (st := s_must_be_kind) l2 c2 k2
  have b2 := F2.binds (ps := ["net", "kind"]) fun _ _ _ _ _ _ us hl => match us, hl with | [_, _], _ => rfl
  have F3 := fun_mk (st := s_places_of) l3 c3 k3
  have b3 := F3.binds (ps := ["net"]) fun _ _ _ _ _ _ us hl => match us, hl with | [_], _ => rfl
  have F4 := fun_mk (st := s_ties_many) l4 c4 k4
  have b4 := F4.binds (ps := ["net"]) fun _ _ _ _ _ _ us hl => match us, hl with | [_], _ => rfl
  have F5 := fun_mk (st := s_is_way) l5 c5 k5
  have b5 := F5.binds (ps := ["net", "way"]) fun _ _ _ _ _ _ us hl => match us, hl with | [_, _], _ => rfl
  have F6 := fun_mk (st := s_ties_on) l6 c6 k6
  have b6 := F6.binds (ps := ["net", "way"]) fun _ _ _ _ _ _ us hl => match us, hl with | [_, _], _ => rfl
  have F7 := fun_mk (st := s_must_be_ways) l7 c7 k7
  have b7 := F7.binds (ps := ["net", "ways"]) fun _ _ _ _ _ _ us hl => match us, hl with | [_, _], _ => rfl
  have F8 := fun_mk (st := s_look_ways) l8 c8 k8
  have b8 := F8.binds (ps := ["net", "ways"]) fun _ _ _ _ _ _ us hl => match us, hl with | [_, _], _ => rfl
  have F9 := fun_mk (st := s_look_ring) l9 c9 k9
  have b9 := F9.binds (ps := ["net"]) fun _ _ _ _ _ _ us hl => match us, hl with | [_], _ => rfl
  have F10 := fun_mk (st := s_counted) l10 c10 k10
  have b10 := F10.binds (ps := ["net", "ways"]) fun _ _ _ _ _ _ us hl => match us, hl with | [_, _], _ => rfl
  have F11 := fun_mk (st := s_loads) l11 c11 k11
  have b11 := F11.binds (ps := ["net", "ways"]) fun _ _ _ _ _ _ us hl => match us, hl with | [_, _], _ => rfl
  have F12 := fun_mk (st := s_first_clash) l12 c12 k12
  have b12 := F12.binds (ps := ["lain", "hues"]) fun _ _ _ _ _ _ us hl => match us, hl with | [_, _], _ => rfl
  have F13 := fun_mk (st := s_clash) l13 c13 k13
  have b13 := F13.binds (ps := ["net", "ways", "hues"]) fun _ _ _ _ _ _ us hl => match us, hl with | [_, _, _], _ => rfl
  have F14 := fun_mk (st := s_is_whole) l14 c14 k14
  have b14 := F14.binds (ps := ["thing"]) fun _ _ _ _ _ _ us hl => match us, hl with | [_], _ => rfl
  have F15 := fun_mk (st := s_have_common) l15 c15 k15
  have b15 := F15.binds (ps := ["one", "other"]) fun _ _ _ _ _ _ us hl => match us, hl with | [_, _], _ => rfl
  have F16 := fun_mk (st := s_meetings) l16 c16 k16
  have b16 := F16.binds (ps := ["net", "ways"]) fun _ _ _ _ _ _ us hl => match us, hl with | [_, _], _ => rfl
  have F17 := fun_mk (st := s_look_few) l17 c17 k17
  have b17 := F17.binds (ps := ["net", "ways", "most"]) fun _ _ _ _ _ _ us hl => match us, hl with | [_, _, _], _ => rfl
  have F18 := fun_mk (st := s_look_number) l18 c18 k18
  have b18 := F18.binds (ps := ["number"]) fun _ _ _ _ _ _ us hl => match us, hl with | [_], _ => rfl
  have F19 := fun_mk (st := s_options) l19 c19 k19
  have b19 := F19.binds (ps := ["h", "given"]) fun _ _ _ _ _ _ us hl => match us, hl with | [_, _], _ => rfl
  have F20 := fun_mk (st := s_is_stuck) l20 c20 k20
  have b20 := F20.binds (ps := ["meets", "given", "k", "hue"]) fun _ _ _ _ _ _ us hl => match us, hl with | [_, _, _, _], _ => rfl
  have F21 := fun_mk (st := s_with_hue) l21 c21 k21
  have b21 := F21.binds (ps := ["given", "k", "hue"]) fun _ _ _ _ _ _ us hl => match us, hl with | [_, _, _], _ => rfl
  have F22 := fun_mk (st := s_is_right) l22 c22 k22
  have b22 := F22.binds (ps := ["meets", "h", "given", "case"]) fun _ _ _ _ _ _ us hl => match us, hl with | [_, _, _, _], _ => rfl
  have F23 := fun_mk (st := s_must_be_crossing) l23 c23 k23
  have b23 := F23.binds (ps := ["crossing"]) fun _ _ _ _ _ _ us hl => match us, hl with | [_], _ => rfl
  have F24 := fun_mk (st := s_is_lot) l24 c24 k24
  have b24 := F24.binds (ps := ["crossing", "lot"]) fun _ _ _ _ _ _ us hl => match us, hl with | [_, _], _ => rfl
  have F25 := fun_mk (st := s_bound_of) l25 c25 k25
  have b25 := F25.binds (ps := ["crossing", "lot"]) fun _ _ _ _ _ _ us hl => match us, hl with | [_, _], _ => rfl
  have F26 := fun_mk (st := s_lot_bound) l26 c26 k26
  have b26 := F26.binds (ps := ["crossing", "lot"]) fun _ _ _ _ _ _ us hl => match us, hl with | [_, _], _ => rfl
  have F27 := fun_mk (st := s_ties_at) l27 c27 k27
  have b27 := F27.binds (ps := ["net", "place"]) fun _ _ _ _ _ _ us hl => match us, hl with | [_, _], _ => rfl
  have F28 := fun_mk (st := s_crossing_of) l28 c28 k28
  have b28 := F28.binds (ps := ["net", "ways", "place"]) fun _ _ _ _ _ _ us hl => match us, hl with | [_, _, _], _ => rfl
  have F29 := fun_mk (st := s_crossing_at) l29 c29 k29
  have b29 := F29.binds (ps := ["net", "ways", "place"]) fun _ _ _ _ _ _ us hl => match us, hl with | [_, _, _], _ => rfl
  have F30 := fun_mk (st := s_are_hues) l30 c30 k30
  have b30 := F30.binds (ps := ["net", "ways", "h", "hues"]) fun _ _ _ _ _ _ us hl => match us, hl with | [_, _, _, _], _ => rfl
  have F31 := fun_mk (st := s_shows_tie) l31 c31 k31
  have b31 := F31.binds (ps := ["net", "ways", "h", "paper"]) fun _ _ _ _ _ _ us hl => match us, hl with | [_, _, _, _], _ => rfl
  have F32 := fun_mk (st := s_shows_lot) l32 c32 k32
  have b32 := F32.binds (ps := ["net", "ways", "h", "paper"]) fun _ _ _ _ _ _ us hl => match us, hl with | [_, _, _, _], _ => rfl
  have F33 := fun_mk (st := s_shows_fewest) l33 c33 k33
  have b33 := F33.binds (ps := ["net", "ways", "h", "paper"]) fun _ _ _ _ _ _ us hl => match us, hl with | [_, _, _, _], _ => rfl
  have F34 := fun_mk (st := s_fewest_judged) l34 c34 k34
  have b34 := F34.binds (ps := ["net", "ways", "told"]) fun _ _ _ _ _ _ us hl => match us, hl with | [_, _, _], _ => rfl
  have F35 := fun_mk (st := s_lying) l35 c35 k35
  have b35 := F35.binds (ps := ["net", "ways"]) fun _ _ _ _ _ _ us hl => match us, hl with | [_, _], _ => rfl
  have F36 := fun_mk (st := s_sum_at) l36 c36 k36
  have b36 := F36.binds (ps := ["both", "settled", "e", "f"]) fun _ _ _ _ _ _ us hl => match us, hl with | [_, _, _, _], _ => rfl
  have F37 := fun_mk (st := s_settle) l37 c37 k37
  have b37 := F37.binds (ps := ["settled", "k", "turn"]) fun _ _ _ _ _ _ us hl => match us, hl with | [_, _, _], _ => rfl
  have F38 := fun_mk (st := s_is_turn_paper) l38 c38 k38
  have b38 := F38.binds (ps := ["net", "both", "m", "settled", "paper"]) fun _ _ _ _ _ _ us hl => match us, hl with | [_, _, _, _, _], _ => rfl
  have F39 := fun_mk (st := s_turn_judged) l39 c39 k39
  have b39 := F39.binds (ps := ["net", "ways", "m", "paper"]) fun _ _ _ _ _ _ us hl => match us, hl with | [_, _, _, _], _ => rfl
  have F40 := fun_mk (st := s_law_mix) l40 c40 k40
  have b40 := F40.binds (ps := ["_law_number", "_law_k"]) fun _ _ _ _ _ _ us hl => match us, hl with | [_, _], _ => rfl
  have F41 := fun_mk (st := s_law_left) l41 c41 k41
  have b41 := F41.binds (ps := ["_law_cell"]) fun _ _ _ _ _ _ us hl => match us, hl with | [_], _ => rfl
  have F42 := fun_mk (st := s_law_draw) l42 c42 k42
  have b42 := F42.binds (ps := ["_law_left_here", "_law_base"]) fun _ _ _ _ _ _ us hl => match us, hl with | [_, _], _ => rfl
  have F43 := fun_mk (st := s_law_whole) l43 c43 k43
  have b43 := F43.binds (ps := ["_law_found"]) fun _ _ _ _ _ _ us hl => match us, hl with | [_], _ => rfl
  have F44 := fun_mk (st := s_law_places) l44 c44 k44
  have b44 := F44.binds (ps := ["_law_net_here"]) fun _ _ _ _ _ _ us hl => match us, hl with | [_], _ => rfl
  have F45 := fun_mk (st := s_law_up) l45 c45 k45
  have b45 := F45.binds (ps := ["_law_net_here", "_law_place"]) fun _ _ _ _ _ _ us hl => match us, hl with | [_, _], _ => rfl
  have F46 := fun_mk (st := s_law_ties) l46 c46 k46
  have b46 := F46.binds (ps := ["_law_net_here", "_law_way"]) fun _ _ _ _ _ _ us hl => match us, hl with | [_, _], _ => rfl
  have F47 := fun_mk (st := s_law_meet) l47 c47 k47
  have b47 := F47.binds (ps := ["_law_one", "_law_other"]) fun _ _ _ _ _ _ us hl => match us, hl with | [_, _], _ => rfl
  have F48 := fun_mk (st := s_law_meets) l48 c48 k48
  have b48 := F48.binds (ps := ["_law_net_here", "_law_ways_here"]) fun _ _ _ _ _ _ us hl => match us, hl with | [_, _], _ => rfl
  have F49 := fun_mk (st := s_law_hues_are_so) l49 c49 k49
  have b49 := F49.binds (ps := ["_law_meets_here", "_law_h", "_law_hues"]) fun _ _ _ _ _ _ us hl => match us, hl with | [_, _, _], _ => rfl
  have F50 := fun_mk (st := s_law_sum) l50 c50 k50
  have b50 := F50.binds (ps := ["_law_net_here", "_law_ways_here", "_law_settled", "_law_e", "_law_f"]) fun _ _ _ _ _ _ us hl => match us, hl with | [_, _, _, _, _], _ => rfl
  have F51 := fun_mk (st := s_law_turn_right) l51 c51 k51
  have b51 := F51.binds (ps := ["_law_net_here", "_law_ways_here", "_law_m", "_law_settled", "_law_paper"]) fun _ _ _ _ _ _ us hl => match us, hl with | [_, _, _, _, _], _ => rfl
  have F52 := fun_mk (st := s_law_net) l52 c52 k52
  have b52 := F52.binds (ps := ["_law_left_here"]) fun _ _ _ _ _ _ us hl => match us, hl with | [_], _ => rfl
  have F53 := fun_mk (st := s_law_ways) l53 c53 k53
  have b53 := F53.binds (ps := ["_law_left_here", "_law_net_here", "_law_many"]) fun _ _ _ _ _ _ us hl => match us, hl with | [_, _, _], _ => rfl
  have F54 := fun_mk (st := s_law_hued) l54 c54 k54
  have b54 := F54.binds (ps := ["_law_meets_here"]) fun _ _ _ _ _ _ us hl => match us, hl with | [_], _ => rfl
  have F55 := fun_mk (st := s_law_bent) l55 c55 k55
  have b55 := F55.binds (ps := ["_law_left_here", "_law_hues"]) fun _ _ _ _ _ _ us hl => match us, hl with | [_, _], _ => rfl
  have F56 := fun_mk (st := s_law_fewest_so) l56 c56 k56
  have b56 := F56.binds (ps := ["_law_left_here"]) fun _ _ _ _ _ _ us hl => match us, hl with | [_], _ => rfl
  have F57 := fun_mk (st := s_law_leaf) l57 c57 k57
  have b57 := F57.binds (ps := ["_law_left_here", "_law_net_here"]) fun _ _ _ _ _ _ us hl => match us, hl with | [_, _], _ => rfl
  have F58 := fun_mk (st := s_law_turn_paper) l58 c58 k58
  have b58 := F58.binds (ps := ["_law_left_here", "_law_net_here", "_law_ways_here"]) fun _ _ _ _ _ _ us hl => match us, hl with | [_, _, _], _ => rfl
  have F59 := fun_mk (st := s_law_turns_so) l59 c59 k59
  have b59 := F59.binds (ps := ["_law_left_here"]) fun _ _ _ _ _ _ us hl => match us, hl with | [_], _ => rfl
  have F60 := fun_mk (st := s_law) l60 c60 k60
  have b60 := F60.binds (ps := ["_law_script"]) fun _ _ _ _ _ _ us hl => match us, hl with | [_], _ => rfl
  have T : Txt K mg ⟨f0, _, f1, _, f2, _, f3, _, f4, _, f5, _, f6, _, f7, _, f8, _, f9, _, f10, _, f11, _, f12, _, f13, _, f14, _, f15, _, f16, _, f17, _, f18, _, f19, _, f20, _, f21, _, f22, _, f23, _, f24, _, f25, _, f26, _, f27, _, f28, _, f29, _, f30, _, f31, _, f32, _, f33, _, f34, _, f35, _, f36, _, f37, _, f38, _, f39, _, f40, _, f41, _, f42, _, f43, _, f44, _, f45, _, f46, _, f47, _, f48, _, f49, _, f50, _, f51, _, f52, _, f53, _, f54, _, f55, _, f56, _, f57, _, f58, _, f59, _, fa, _⟩ :=
    ⟨PySem.W.mg_of X G a0, F0, b0, PySem.W.mg_of X G a1, F1, b1, PySem.W.mg_of X G a2, F2, b2, PySem.W.mg_of X G a3, F3, b3, PySem.W.mg_of X G a4, F4, b4, PySem.W.mg_of X G a5, F5, b5, PySem.W.mg_of X G a6, F6, b6, PySem.W.mg_of X G a7, F7, b7, PySem.W.mg_of X G a8, F8, b8, PySem.W.mg_of X G a9, F9, b9, PySem.W.mg_of X G a10, F10, b10, PySem.W.mg_of X G a11, F11, b11, PySem.W.mg_of X G a12, F12, b12, PySem.W.mg_of X G a13, F13, b13, PySem.W.mg_of X G a14, F14, b14, PySem.W.mg_of X G a15, F15, b15, PySem.W.mg_of X G a16, F16, b16, PySem.W.mg_of X G a17, F17, b17, PySem.W.mg_of X G a18, F18, b18, PySem.W.mg_of X G a19, F19, b19, PySem.W.mg_of X G a20, F20, b20, PySem.W.mg_of X G a21, F21, b21, PySem.W.mg_of X G a22, F22, b22, PySem.W.mg_of X G a23, F23, b23, PySem.W.mg_of X G a24, F24, b24, PySem.W.mg_of X G a25, F25, b25, PySem.W.mg_of X G a26, F26, b26, PySem.W.mg_of X G a27, F27, b27, PySem.W.mg_of X G a28, F28, b28, PySem.W.mg_of X G a29, F29, b29, PySem.W.mg_of X G a30, F30, b30, PySem.W.mg_of X G a31, F31, b31, PySem.W.mg_of X G a32, F32, b32, PySem.W.mg_of X G a33, F33, b33, PySem.W.mg_of X G a34, F34, b34, PySem.W.mg_of X G a35, F35, b35, PySem.W.mg_of X G a36, F36, b36, PySem.W.mg_of X G a37, F37, b37, PySem.W.mg_of X G a38, F38, b38, PySem.W.mg_of X G a39, F39, b39, PySem.W.mg_of X G a40, F40, b40, PySem.W.mg_of X G a41, F41, b41, PySem.W.mg_of X G a42, F42, b42, PySem.W.mg_of X G a43, F43, b43, PySem.W.mg_of X G a44, F44, b44, PySem.W.mg_of X G a45, F45, b45, PySem.W.mg_of X G a46, F46, b46, PySem.W.mg_of X G a47, F47, b47, PySem.W.mg_of X G a48, F48, b48, PySem.W.mg_of X G a49, F49, b49, PySem.W.mg_of X G a50, F50, b50, PySem.W.mg_of X G a51, F51, b51, PySem.W.mg_of X G a52, F52, b52, PySem.W.mg_of X G a53, F53, b53, PySem.W.mg_of X G a54, F54, b54, PySem.W.mg_of X G a55, F55, b55, PySem.W.mg_of X G a56, F56, b56, PySem.W.mg_of X G a57, F57, b57, PySem.W.mg_of X G a58, F58, b58, PySem.W.mg_of X G a59, F59, b59, PySem.W.mg_of X G a60, F60, b60, tok_mk (PySem.W.mg_of X G e0), tok_mk (PySem.W.mg_of X G e1), tok_mk (PySem.W.mg_of X G e2), tok_mk (PySem.W.mg_of X G e3), tok_mk (PySem.W.mg_of X G e4), PySem.W.mg_none_of X G z0, PySem.W.mg_none_of X G z1, PySem.W.mg_none_of X G z2, PySem.W.mg_none_of X G z3, PySem.W.mg_none_of X G z4, PySem.W.mg_none_of X G z5, PySem.W.mg_none_of X G z6, PySem.W.mg_none_of X G z7, PySem.W.mg_none_of X G z8, PySem.W.mg_none_of X G z9, PySem.W.mg_none_of X G z10, PySem.W.mg_none_of X G z11, PySem.W.mg_none_of X G z12, PySem.W.mg_none_of X G z13⟩
  exact ⟨_, fun s v => .of_eq rfl, fun base _ _ => ok_law T⟩
end Pf
open PySem PySem.W PyProof.Rows
set_option maxHeartbeats 0 in
theorem PySem.Challenge.cw_tiehues_k58_whole_wide_things_judged_holds : PySem.Challenge.rw_tiehues_k58_whole_wide_things_judged.Holds := by
  w_on; o_law; k_head; (case hw => w_witness2)
  k_fill
  refine L2.walk_ofK (l := PySem.Challenge.rw_tiehues_k58_whole_wide_things_judged) (n := 63) (k := 20) (x := "_law_script") (CX := L2.CX0) (sp := Pf.sp_law) rfl (by decide) rfl ⟨rfl, by decide, by decide⟩ (fun w h Y => PySem.W.kIn_of Y) ?F (fun _ _ a ns hl _ hS => ⟨a, ns, rfl, hS, hl, fun _ => rfl⟩) (fun _ _ _ _ h => h)
  case F =>
    intro w mg fa h KX G hmg
    refine' Pf.all_mk KX G hmg ?a0 ?l0 ?c0 ?k0 ?a1 ?l1 ?c1 ?k1 ?a2 ?l2 ?c2 ?k2 ?a3 ?l3 ?c3 ?k3 ?a4 ?l4 ?c4 ?k4 ?a5 ?l5 ?c5 ?k5 ?a6 ?l6 ?c6 ?k6 ?a7 ?l7 ?c7 ?k7 ?a8 ?l8 ?c8 ?k8 ?a9 ?l9 ?c9 ?k9 ?a10 ?l10 ?c10 ?k10 ?a11 ?l11 ?c11 ?k11 ?a12 ?l12 ?c12 ?k12 ?a13 ?l13 ?c13 ?k13 ?a14 ?l14 ?c14 ?k14 ?a15 ?l15 ?c15 ?k15 ?a16 ?l16 ?c16 ?k16 ?a17 ?l17 ?c17 ?k17 ?a18 ?l18 ?c18 ?k18 ?a19 ?l19 ?c19 ?k19 ?a20 ?l20 ?c20 ?k20 ?a21 ?l21 ?c21 ?k21 ?a22 ?l22 ?c22 ?k22 ?a23 ?l23 ?c23 ?k23 ?a24 ?l24 ?c24 ?k24 ?a25 ?l25 ?c25 ?k25 ?a26 ?l26 ?c26 ?k26 ?a27 ?l27 ?c27 ?k27 ?a28 ?l28 ?c28 ?k28 ?a29 ?l29 ?c29 ?k29 ?a30 ?l30 ?c30 ?k30 ?a31 ?l31 ?c31 ?k31 ?a32 ?l32 ?c32 ?k32 ?a33 ?l33 ?c33 ?k33 ?a34 ?l34 ?c34 ?k34 ?a35 ?l35 ?c35 ?k35 ?a36 ?l36 ?c36 ?k36 ?a37 ?l37 ?c37 ?k37 ?a38 ?l38 ?c38 ?k38 ?a39 ?l39 ?c39 ?k39 ?a40 ?l40 ?c40 ?k40 ?a41 ?l41 ?c41 ?k41 ?a42 ?l42 ?c42 ?k42 ?a43 ?l43 ?c43 ?k43 ?a44 ?l44 ?c44 ?k44 ?a45 ?l45 ?c45 ?k45 ?a46 ?l46 ?c46 ?k46 ?a47 ?l47 ?c47 ?k47 ?a48 ?l48 ?c48 ?k48 ?a49 ?l49 ?c49 ?k49 ?a50 ?l50 ?c50 ?k50 ?a51 ?l51 ?c51 ?k51 ?a52 ?l52 ?c52 ?k52 ?a53 ?l53 ?c53 ?k53 ?a54 ?l54 ?c54 ?k54 ?a55 ?l55 ?c55 ?k55 ?a56 ?l56 ?c56 ?k56 ?a57 ?l57 ?c57 ?k57 ?a58 ?l58 ?c58 ?k58 ?a59 ?l59 ?c59 ?k59 ?a60 ?l60 ?c60 ?k60 ?e0 ?e1 ?e2 ?e3 ?e4 ?z0 ?z1 ?z2 ?z3 ?z4 ?z5 ?z6 ?z7 ?z8 ?z9 ?z10 ?z11 ?z12 ?z13
    (case a0 => k_is); (case l0 => k_is); (case c0 => k_is); (case k0 => k_is); (case a1 => k_is); (case l1 => k_is); (case c1 => k_is); (case k1 => k_is); (case a2 => k_is); (case l2 => k_is); (case c2 => k_is); (case k2 => k_is); (case a3 => k_is); (case l3 => k_is); (case c3 => k_is); (case k3 => k_is); (case a4 => k_is); (case l4 => k_is); (case c4 => k_is); (case k4 => k_is); (case a5 => k_is); (case l5 => k_is); (case c5 => k_is); (case k5 => k_is); (case a6 => k_is); (case l6 => k_is); (case c6 => k_is); (case k6 => k_is); (case a7 => k_is); (case l7 => k_is); (case c7 => k_is); (case k7 => k_is); (case a8 => k_is); (case l8 => k_is); (case c8 => k_is); (case k8 => k_is); (case a9 => k_is); (case l9 => k_is); (case c9 => k_is); (case k9 => k_is); (case a10 => k_is); (case l10 => k_is); (case c10 => k_is); (case k10 => k_is); (case a11 => k_is); (case l11 => k_is); (case c11 => k_is); (case k11 => k_is); (case a12 => k_is); (case l12 => k_is); (case c12 => k_is); (case k12 => k_is); (case a13 => k_is); (case l13 => k_is); (case c13 => k_is); (case k13 => k_is); (case a14 => k_is); (case l14 => k_is); (case c14 => k_is); (case k14 => k_is); (case a15 => k_is); (case l15 => k_is); (case c15 => k_is); (case k15 => k_is); (case a16 => k_is); (case l16 => k_is); (case c16 => k_is); (case k16 => k_is); (case a17 => k_is); (case l17 => k_is); (case c17 => k_is); (case k17 => k_is); (case a18 => k_is); (case l18 => k_is); (case c18 => k_is); (case k18 => k_is); (case a19 => k_is); (case l19 => k_is); (case c19 => k_is); (case k19 => k_is); (case a20 => k_is); (case l20 => k_is); (case c20 => k_is); (case k20 => k_is); (case a21 => k_is); (case l21 => k_is); (case c21 => k_is); (case k21 => k_is); (case a22 => k_is); (case l22 => k_is); (case c22 => k_is); (case k22 => k_is); (case a23 => k_is); (case l23 => k_is); (case c23 => k_is); (case k23 => k_is); (case a24 => k_is); (case l24 => k_is); (case c24 => k_is); (case k24 => k_is); (case a25 => k_is); (case l25 => k_is); (case c25 => k_is); (case k25 => k_is); (case a26 => k_is); (case l26 => k_is); (case c26 => k_is); (case k26 => k_is); (case a27 => k_is); (case l27 => k_is); (case c27 => k_is); (case k27 => k_is); (case a28 => k_is); (case l28 => k_is); (case c28 => k_is); (case k28 => k_is); (case a29 => k_is); (case l29 => k_is); (case c29 => k_is); (case k29 => k_is); (case a30 => k_is); (case l30 => k_is); (case c30 => k_is); (case k30 => k_is); (case a31 => k_is); (case l31 => k_is); (case c31 => k_is); (case k31 => k_is); (case a32 => k_is); (case l32 => k_is); (case c32 => k_is); (case k32 => k_is); (case a33 => k_is); (case l33 => k_is); (case c33 => k_is); (case k33 => k_is); (case a34 => k_is); (case l34 => k_is); (case c34 => k_is); (case k34 => k_is); (case a35 => k_is); (case l35 => k_is); (case c35 => k_is); (case k35 => k_is); (case a36 => k_is); (case l36 => k_is); (case c36 => k_is); (case k36 => k_is); (case a37 => k_is); (case l37 => k_is); (case c37 => k_is); (case k37 => k_is); (case a38 => k_is); (case l38 => k_is); (case c38 => k_is); (case k38 => k_is); (case a39 => k_is); (case l39 => k_is); (case c39 => k_is); (case k39 => k_is); (case a40 => k_is); (case l40 => k_is); (case c40 => k_is); (case k40 => k_is); (case a41 => k_is); (case l41 => k_is); (case c41 => k_is); (case k41 => k_is); (case a42 => k_is); (case l42 => k_is); (case c42 => k_is); (case k42 => k_is); (case a43 => k_is); (case l43 => k_is); (case c43 => k_is); (case k43 => k_is); (case a44 => k_is); (case l44 => k_is); (case c44 => k_is); (case k44 => k_is); (case a45 => k_is); (case l45 => k_is); (case c45 => k_is); (case k45 => k_is); (case a46 => k_is); (case l46 => k_is); (case c46 => k_is); (case k46 => k_is); (case a47 => k_is); (case l47 => k_is); (case c47 => k_is); (case k47 => k_is); (case a48 => k_is); (case l48 => k_is); (case c48 => k_is); (case k48 => k_is); (case a49 => k_is); (case l49 => k_is); (case c49 => k_is); (case k49 => k_is); (case a50 => k_is); (case l50 => k_is); (case c50 => k_is); (case k50 => k_is); (case a51 => k_is); (case l51 => k_is); (case c51 => k_is); (case k51 => k_is); (case a52 => k_is); (case l52 => k_is); (case c52 => k_is); (case k52 => k_is); (case a53 => k_is); (case l53 => k_is); (case c53 => k_is); (case k53 => k_is); (case a54 => k_is); (case l54 => k_is); (case c54 => k_is); (case k54 => k_is); (case a55 => k_is); (case l55 => k_is); (case c55 => k_is); (case k55 => k_is); (case a56 => k_is); (case l56 => k_is); (case c56 => k_is); (case k56 => k_is); (case a57 => k_is); (case l57 => k_is); (case c57 => k_is); (case k57 => k_is); (case a58 => k_is); (case l58 => k_is); (case c58 => k_is); (case k58 => k_is); (case a59 => k_is); (case l59 => k_is); (case c59 => k_is); (case k59 => k_is); (case a60 => k_is); (case l60 => k_is); (case c60 => k_is); (case k60 => k_is); (case e0 => k_is); (case e1 => k_is); (case e2 => k_is); (case e3 => k_is); (case e4 => k_is); (case z0 => k_is); (case z1 => k_is); (case z2 => k_is); (case z3 => k_is); (case z4 => k_is); (case z5 => k_is); (case z6 => k_is); (case z7 => k_is); (case z8 => k_is); (case z9 => k_is); (case z10 => k_is); (case z11 => k_is); (case z12 => k_is); (case z13 => k_is)
