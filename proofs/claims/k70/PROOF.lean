import PyProof.Rows.All
import Wide.All
import OpenK.AllK
import Wide.FinOn
import HandS.ForMost
import HandS.NoneIn
import HandS.Conv
import HandS.IsInst
import HandS.Wide
import HandS.SortInts
import HandS.Walk
import KE.DataMinMax
import HandS.Text
import HandS.Zip
import HandS.Exc
import HandS.WordsDict
import HandS.Deep
import HandS.Iter
import HandS.Sort
import HandS.Dict
import HandS.ExcOwn
import HandS.More
import HandS.Style
import HandS.List
import HandS.Rev
import HandS.Set
import HandS.Strs
import KE.SortKeyHeap
import HandS.Lambda
import HandS.EndTab
import PySem.Challenge.RW_tiehues_k70_hues_on_rings
set_option Elab.async false
set_option linter.all false
set_option maxRecDepth 100000
set_option maxHeartbeats 4000000
set_option synthInstance.maxHeartbeats 0
set_option synthInstance.maxSize 1000000
namespace Cm
open PySem PySem.Spec PyProof.Rows L2

/-! ### named readings -/
def rLenX (K : PySem.W.Frag) : List V → Hp → VK → Prop := fun xs H Q => ∃ p ys, xs = [.ref p] ∧ (SqL K H p ys ∨ SqT K H p ys) ∧ Q (.int ys.length) H
theorem q_len {X : Cx} : CallR X (.builtin "len") (rLenX X.K) := call_len_seq
def rListOf (K : PySem.W.Frag) : List V → Hp → VK → Prop := fun xs H Q => ∃ p ys, xs = [.ref p] ∧ (SqL K H p ys ∨ SqT K H p ys) ∧ ∀ l, H l = none → Q (.ref l) (upd H l (.lst ys))
theorem q_listOf {X : Cx} : CallR X (.type "list") (rListOf X.K) := call_list_of
def rMax2 : List V → Hp → VK → Prop := fun xs H Q => ∃ i j, xs = [.int i, .int j] ∧ Q (.int (if j > i then j else i)) H
theorem q_max2 {X : Cx} (hc : X.calm = true) : CallR X (.builtin "max") rMax2 := call_max2 hc
def rMin2 : List V → Hp → VK → Prop := fun xs H Q => ∃ i j, xs = [.int i, .int j] ∧ Q (.int (if j < i then j else i)) H
theorem q_min2 {X : Cx} (hc : X.calm = true) : CallR X (.builtin "min") rMin2 := call_min2 hc
theorem q_isi {X : Cx} : CallR X (.builtin "isinstance") (rIsi X.K) := call_isi
def rIntOf : List V → Hp → VK → Prop := fun xs H Q => (∃ i, xs = [.int i] ∧ Q (.int i) H) ∨ ∃ k, xs = [.bl k] ∧ Q (.int (if k then 1 else 0)) H
theorem q_intB {X : Cx} : CallR X (.type "int") rIntOf := call_int1
theorem q_intI {X : Cx} : CallR X (.type "int") rIntOf := call_int1

/-! ### operators by names -/
def xAdd : R2 := rI0 fun i j => .int (i + j)
def xSub : R2 := rI0 fun i j => .int (i - j)
def xMul : R2 := rI CMul fun i j => .int (i * j)
def xMulW : R2 := rI CMulW fun i j => .int (i * j)
def xDiv : R2 := rI CDiv fun i j => .int (i / j)
def xDivW : R2 := rI CDivW fun i j => .int (i / j)
def xMod : R2 := rI (fun _ j => 0 < j) fun i j => .int (i % j)
def xPow : R2 := rI CPow fun i j => .int (i ^ j.toNat)
def xLt : R2 := rI0 fun i j => .bl (decide (i < j))
def xLe : R2 := rI0 fun i j => .bl (decide (i ≤ j))
def xGt : R2 := rI0 fun i j => .bl (decide (j < i))
def xGe : R2 := rI0 fun i j => .bl (decide (j ≤ i))
def xNeg : V → Hp → VK → Prop := rU fun i => .int (-i)
def xIsN : R2 := fun x y H Q => y = .non ∧ Q (.bl (decide (x = .non))) H
def xNotN : R2 := fun x y H Q => y = .non ∧ Q (.bl (!decide (x = .non))) H
def xTru (K : PySem.W.Frag) (ta : TE) : TT := fun σ H Q => ta σ H fun x H' => ∃ k, TruV K x H' k ∧ Q k H'

/-! ### xs[i] += e -/
def rGetL (K : PySem.W.Frag) : V → V → Hp → VK → Prop := fun x y H Q => ∃ p xs i v, x = .ref p ∧ y = .int i ∧ SqL K H p xs ∧ 0 ≤ i ∧ atI xs i = some v ∧ Q v H
theorem get_list {X : Cx} : PGet X (rGetL X.K) := by
  intro pins s σ H x y v u Q I rx ry h
  obtain ⟨p, xs, i, z, rfl, rfl, hq, h0, he, q⟩ := h
  cases rx
  obtain ⟨t, rfl⟩ := ry
  obtain ⟨its, r, pl, hz⟩ := I.list hq
  obtain ⟨j, h1, h2, h3, h4, h5⟩ := atI_get he
  obtain ⟨w, ew, rw'⟩ := r.get h2
  have hl := r.length
  have hn := line63
  have fin : EP X pins σ Q w s := ⟨z, H, I, rw', q⟩
  have hj : i.toNat = j := by
    rw [seqIndex_of h0 h5] at h1
    exact Option.some.inj h1
  exact wpAny_getItem_list pl.isList h0 (by omega) (by rw [hj]; simpa using ew) fin
def xAugL (K : PySem.W.Frag) (to ti te : TE) : TS := tAugS to ti te (rGetL K) (ipI fun i j => i + j) rSetL
theorem q_augL {X : Cx} {o i e : Expr} {to ti te : TE} {tpos pos : Pos} (ho : PE X o to) (hi : PE X i ti) (he : PE X e te)
    (ha : ∀ ov iv new, augStore i ov iv new = (do holding [new, ov, iv] (setItem ov iv new); release [new, ov, iv] []; pure .next) := by intros; rfl) : PS X (.AugAssign (.Subscript o i tpos) .Add e pos) (xAugL X.K to ti te) :=
  ps_augS ho hi get_list he ip_add set_list ha

/-! ### constants of the module -/
def g_tok (mg : Str → Option Value) (x : Str) : Tok := match mg x with
  | some (.int _ t) => t
  | _ => default
theorem tok_mk {mg : Str → Option Value} {x : Str} {n : Int} {t : Tok} (h : mg x = some (.int n t)) : mg x = some (.int n (g_tok mg x)) := by
  unfold g_tok
  rw [h]

/-! ### heaps -/
theorem same_new {H : Hp} {p : Addr} {o : HO} (h : H p = none) : Same H (upd H p o) := fun b x e => by
  rw [upd_ne (ne_of_none e h)]
  exact e
theorem same_mut {H H' : Hp} {p : Addr} {o : HO} (e : Same H H') (h : H p = none) : Same H (upd H' p o) := fun a u ha => by
  rw [upd_ne (ne_of_none ha h)]
  exact e a u ha
theorem same_seqT {K : PySem.W.Frag} {H H' : Hp} {a : Addr} {xs : List V} (e : Same H H') (h : SqT K H a xs) : SqT K H' a xs := by
  rcases h with (h | ⟨o, h⟩) | h
  · exact .inl (.inl (e _ _ h))
  · exact .inl (.inr ⟨o, e _ _ h⟩)
  · exact .inr h
theorem sl {K : PySem.W.Frag} {H : Hp} {a : Addr} {xs : List V} (h : H a = some (.lst xs)) : SqL K H a xs := .inl (.inl h)
theorem stp {K : PySem.W.Frag} {H : Hp} {a : Addr} {xs : List V} (h : H a = some (.tup xs)) : SqT K H a xs := .inl (.inl h)
theorem sz {n : Nat} (h : n ≤ 100000) : n ≤ sizeLine := Nat.le_trans h (by decide)
theorem szl {n : Nat} (h : n < 100000) : n < sizeLine := Nat.lt_of_lt_of_le h (by decide)

/-! ### data -/
mutual
theorem dp_same {K : PySem.W.Frag} {H H' : Hp} (e : Same H H') : ∀ {v : V} {d : PyData}, Dp K H v d → Dp K H' v d
  | _, _, .non => .non
  | _, _, .bl b => .bl b
  | _, _, .int i => .int i
  | _, _, .str x => .str x
  | _, _, .lst s r => .lst (e.seq s) (dpa_same e r)
  | _, _, .tup s r => .tup (same_seqT e s) (dpa_same e r)
theorem dpa_same {K : PySem.W.Frag} {H H' : Hp} (e : Same H H') : ∀ {vs : List V} {ds : List PyData}, DpAll K H vs ds → DpAll K H' vs ds
  | _, _, .nil => .nil
  | _, _, .cons h r => .cons (dp_same e h) (dpa_same e r)
end
section
variable {K : PySem.W.Frag} {H : Hp}
theorem dp_int {v : V} {i : Int} (h : Dp K H v (.int i)) : v = .int i := by cases h; rfl
theorem dp_bool {v : V} {b : Bool} (h : Dp K H v (.bool b)) : v = .bl b := by cases h; rfl
theorem dp_str {v : V} {s : Str} (h : Dp K H v (.str s)) : v = .str s := by cases h; rfl
theorem dp_list {v : V} {ds : List PyData} (h : Dp K H v (.list ds)) : ∃ a xs, v = .ref a ∧ SqL K H a xs ∧ DpAll K H xs ds := by
  cases h with | lst s r => exact ⟨_, _, rfl, s, r⟩
theorem dp_tup {v : V} {ds : List PyData} (h : Dp K H v (.tuple ds)) : ∃ a xs, v = .ref a ∧ SqT K H a xs ∧ DpAll K H xs ds := by
  cases h with | tup s r => exact ⟨_, _, rfl, s, r⟩
theorem dp_tup2 {v : V} {c d : PyData} (h : Dp K H v (.tuple [c, d])) : ∃ a x y, v = .ref a ∧ SqT K H a [x, y] ∧ Dp K H x c ∧ Dp K H y d := by
  cases h with | tup s r =>
    cases r with | cons h1 r =>
      cases r with | cons h2 r =>
        cases r
        exact ⟨_, _, _, rfl, s, h1, h2⟩
theorem dp_pair {v : V} {a b : Int} (h : Dp K H v (.tuple [.int a, .int b])) : ∃ p, v = .ref p ∧ SqT K H p [.int a, .int b] := by
  obtain ⟨p, x, y, rfl, s, h1, h2⟩ := dp_tup2 h
  rw [dp_int h1, dp_int h2] at s
  exact ⟨p, rfl, s⟩
theorem dpa_ints : ∀ {ns : List Int} {vs : List V}, DpAll K H vs (ns.map PyData.int) → vs = ns.map V.int
  | [], _, h => by cases h; rfl
  | n :: r, _, h => by
    cases h with | cons h1 h2 => rw [dp_int h1, dpa_ints h2]; rfl
theorem dpa_of_ints : ∀ ns : List Int, DpAll K H (ns.map V.int) (ns.map PyData.int)
  | [] => .nil
  | n :: r => .cons (.int n) (dpa_of_ints r)
theorem dpa_len : ∀ {vs : List V} {ds : List PyData}, DpAll K H vs ds → vs.length = ds.length
  | _, _, .nil => rfl
  | _, _, .cons _ r => by simp [dpa_len r]
theorem dpa_get : ∀ {vs : List V} {ds : List PyData} {i : Nat} {v : V}, DpAll K H vs ds → vs[i]? = some v → ∃ d, ds[i]? = some d ∧ Dp K H v d
  | _, _, _, _, .nil, e => by simp at e
  | _, _, 0, _, .cons h _, e => by simp at e; subst e; exact ⟨_, rfl, h⟩
  | _, _, i + 1, _, .cons _ r, e => by
    obtain ⟨d, h1, h2⟩ := dpa_get (i := i) r (by simpa using e)
    exact ⟨d, by simpa using h1, h2⟩
theorem dpa_get2 : ∀ {vs : List V} {ds : List PyData} {i : Nat} {d : PyData}, DpAll K H vs ds → ds[i]? = some d → ∃ v, vs[i]? = some v ∧ Dp K H v d
  | _, _, _, _, .nil, e => by simp at e
  | _, _, 0, _, .cons h _, e => by simp at e; subst e; exact ⟨_, rfl, h⟩
  | _, _, i + 1, _, .cons _ r, e => by
    obtain ⟨d, h1, h2⟩ := dpa_get2 (i := i) r (by simpa using e)
    exact ⟨d, by simpa using h1, h2⟩
theorem dpa_app {vs ws : List V} {ds es : List PyData} : DpAll K H vs ds → DpAll K H ws es → DpAll K H (vs ++ ws) (ds ++ es)
  | .nil, r => r
  | .cons h t, r => .cons h (dpa_app t r)
/-- a list of ints -/
abbrev dInts (ns : List Int) : PyData := .list (ns.map PyData.int)
theorem dp_ints {v : V} {ns : List Int} (h : Dp K H v (dInts ns)) : ∃ a, v = .ref a ∧ SqL K H a (ns.map V.int) := by
  obtain ⟨a, xs, rfl, s, r⟩ := dp_list h
  rw [dpa_ints r] at s
  exact ⟨a, rfl, s⟩
theorem dp_of_ints {a : Addr} {ns : List Int} (h : SqL K H a (ns.map V.int)) : Dp K H (.ref a) (dInts ns) := .lst h (dpa_of_ints ns)
/-- a pair of ints -/
abbrev dPair (p : Int × Int) : PyData := .tuple [.int p.1, .int p.2]
theorem dp_of_pair {a : Addr} {x y : Int} (h : SqT K H a [.int x, .int y]) : Dp K H (.ref a) (dPair (x, y)) := .tup h (.cons (.int x) (.cons (.int y) .nil))
abbrev dPairs (ps : List (Int × Int)) : PyData := .list (ps.map dPair)
end

theorem dpairs_get {K : PySem.W.Frag} {H : Hp} {xs : List V} {ps : List (Int × Int)} {i : Nat} {x : V} (hxs : DpAll K H xs (ps.map dPair)) (hx : xs[i]? = some x) : ∃ p c, ps[i]? = some p ∧ x = .ref c ∧ SqT K H c [.int p.1, .int p.2] := by
  obtain ⟨d, hd, hdx⟩ := dpa_get hxs hx
  rw [List.getElem?_map] at hd
  obtain ⟨p, hp, rfl⟩ := Option.map_eq_some_iff.mp hd
  obtain ⟨c, rfl, hcs⟩ := dp_pair hdx
  exact ⟨p, c, hp, rfl, hcs⟩
/-- data that may be compared: no dicts, at most n deep -/
def Sh (n : Nat) (d : PyData) : Prop := d.canLay0 = true ∧ d.depth ≤ n
theorem Sh.shaped {n : Nat} {d : PyData} (h : Sh n d) (hn : n ≤ 64) : SeqAt.shaped d = true := by
  unfold SeqAt.shaped
  rw [h.1, decide_eq_true (Nat.le_trans h.2 hn)]; rfl
theorem Sh.mono {n m : Nat} {d : PyData} (h : Sh n d) (hn : n ≤ m) : Sh m d := ⟨h.1, Nat.le_trans h.2 hn⟩
theorem sh_int {n : Nat} {i : Int} : Sh n (.int i) := ⟨rfl, Nat.zero_le _⟩
theorem sh_bool {n : Nat} {b : Bool} : Sh n (.bool b) := ⟨rfl, Nat.zero_le _⟩
theorem sh_none {n : Nat} : Sh n .none := ⟨rfl, Nat.zero_le _⟩
theorem sh_all {n : Nat} : ∀ {ds : List PyData}, (∀ d ∈ ds, Sh n d) → PyData.canLayAll0 ds = true ∧ PyData.depthAll ds ≤ n
  | [], _ => ⟨rfl, Nat.zero_le _⟩
  | d :: r, h => by
    obtain ⟨h1, h2⟩ := sh_all (ds := r) fun x hx => h x (List.mem_cons_of_mem _ hx)
    obtain ⟨h3, h4⟩ := h d List.mem_cons_self
    refine ⟨?_, ?_⟩
    · show (PyData.canLay0 d && PyData.canLayAll0 r) = true
      rw [h3, h1]; rfl
    · show max d.depth (PyData.depthAll r) ≤ n
      omega
theorem sh_list {n : Nat} {ds : List PyData} (h : ∀ d ∈ ds, Sh n d) : Sh (n + 1) (.list ds) := by
  obtain ⟨h1, h2⟩ := sh_all h
  exact ⟨h1, by show PyData.depthAll ds + 1 ≤ n + 1; omega⟩
theorem sh_tup {n : Nat} {ds : List PyData} (h : ∀ d ∈ ds, Sh n d) : Sh (n + 1) (.tuple ds) := by
  obtain ⟨h1, h2⟩ := sh_all h
  exact ⟨h1, by show PyData.depthAll ds + 1 ≤ n + 1; omega⟩
theorem sh_ints {n : Nat} (ns : List Int) : Sh (n + 1) (dInts ns) := sh_list fun d hd => by
  obtain ⟨i, _, rfl⟩ := List.mem_map.mp hd
  exact sh_int
theorem sh_pair {n : Nat} (p : Int × Int) : Sh (n + 1) (dPair p) := sh_tup fun d hd => by
  rcases List.mem_cons.mp hd with rfl | hd
  · exact sh_int
  · rcases List.mem_cons.mp hd with rfl | hd
    · exact sh_int
    · cases hd
theorem sh_pairs {n : Nat} (ps : List (Int × Int)) : Sh (n + 2) (dPairs ps) := sh_list fun d hd => by
  obtain ⟨p, _, rfl⟩ := List.mem_map.mp hd
  exact sh_pair p
theorem sh_two {n : Nat} {c d : PyData} (h1 : Sh n c) (h2 : Sh n d) : Sh (n + 1) (.tuple [c, d]) := sh_tup fun x hx => by
  rcases List.mem_cons.mp hx with rfl | hx
  · exact h1
  · rcases List.mem_cons.mp hx with rfl | hx
    · exact h2
    · cases hx
theorem Sh.refl {n : Nat} {d : PyData} (h : Sh n d) : PyData.eqv d d = true := SeqAt.eqv_refl d h.1
theorem ff_iff {P : Prop} (h : ¬ P) : false = true ↔ P := ⟨fun z => (nomatch z), fun z => (h z).elim⟩
theorem tt_iff {P : Prop} (h : P) : true = true ↔ P := ⟨fun _ => h, fun _ => rfl⟩

theorem ixN_of {n : Nat} {i : Int} (h0 : 0 ≤ i) (h1 : i < n) : ixN n i = some i.toNat := by unfold ixN; rw [if_pos h0, if_pos h1]
theorem map_erase (ns : List Int) (i : Nat) : (ns.map V.int).eraseIdx i = (ns.eraseIdx i).map V.int := by
  induction ns generalizing i with
  | nil => rfl
  | cons x r ih => cases i with
    | zero => rfl
    | succ i => show V.int x :: (r.map V.int).eraseIdx i = _; rw [ih]; rfl
theorem erase_perm {α : Type} (l : List α) (i : Nat) (h : i < l.length) : (l[i] :: l.eraseIdx i).Perm l := by
  induction l generalizing i with
  | nil => exact absurd h (by simp)
  | cons x r ih => cases i with
    | zero => exact List.Perm.refl _
    | succ i =>
      have h' : i < r.length := by simpa using h
      show (r[i] :: x :: r.eraseIdx i).Perm (x :: r)
      exact (List.Perm.swap _ _ _).trans ((ih i h').cons x)
theorem getD_memI {ns : List Int} {i : Int} (h0 : 0 ≤ i) (h1 : i < ns.length) : ns.getD i.toNat 0 ∈ ns := by
  have h : i.toNat < ns.length := by omega
  rw [List.getD_eq_getElem?_getD, List.getElem?_eq_getElem h]
  exact List.getElem_mem h
theorem not_in2 {p a b : Addr} (h1 : p ≠ a) (h2 : p ≠ b) : p ∉ [a, b] := by
  intro z
  rcases List.mem_cons.mp z with z | z
  · exact h1 z
  · rcases List.mem_cons.mp z with z | z
    · exact h2 z
    · cases z

/-! ### readings, step by step -/
section
variable {K : PySem.W.Frag} {σ : L2.St} {H : Hp} {D : Ends} {Q : VK} {ta tb te : TE} {t u : TT} {s1 s2 : TS} {QT : Bool → Hp → Prop} {QA : List V → Hp → Prop} {tr : TA} {QS : L2.St → Hp → Prop}
theorem k_seq {nx : L2.St → Hp → Prop} {rt : VK} {bk ct : L2.St → Hp → Prop} (h : s1 ⟨s2 ⟨nx, rt, bk, ct⟩, rt, bk, ct⟩ σ H) : tSeq s1 s2 ⟨nx, rt, bk, ct⟩ σ H := h
theorem k_nx {nx : L2.St → Hp → Prop} {rt : VK} {bk ct : L2.St → Hp → Prop} (h : nx σ H) : Ends.nx ⟨nx, rt, bk, ct⟩ σ H := h
theorem k_next {nx : L2.St → Hp → Prop} {rt : VK} {bk ct : L2.St → Hp → Prop} (h : nx σ H) : tNext ⟨nx, rt, bk, ct⟩ σ H := h
theorem k_cont {nx : L2.St → Hp → Prop} {rt : VK} {bk ct : L2.St → Hp → Prop} (h : ct σ H) : tCont ⟨nx, rt, bk, ct⟩ σ H := h
theorem k_brk {nx : L2.St → Hp → Prop} {rt : VK} {bk ct : L2.St → Hp → Prop} (h : bk σ H) : tBreak ⟨nx, rt, bk, ct⟩ σ H := h
theorem k_set {nx : L2.St → Hp → Prop} {rt : VK} {bk ct : L2.St → Hp → Prop} {i : Nat} (h : te σ H fun x H1 => nx (σ.set i (some x)) H1) : tAsg te (gName i) ⟨nx, rt, bk, ct⟩ σ H := h
theorem k_asg {nx : L2.St → Hp → Prop} {rt : VK} {bk ct : L2.St → Hp → Prop} {g : TG} (h : te σ H fun x H1 => g x σ H1 nx) : tAsg te g ⟨nx, rt, bk, ct⟩ σ H := h
theorem k_drop {nx : L2.St → Hp → Prop} {rt : VK} {bk ct : L2.St → Hp → Prop} (h : te σ H fun _ H1 => nx σ H1) : tDrop te ⟨nx, rt, bk, ct⟩ σ H := h
theorem k_ret {nx : L2.St → Hp → Prop} {rt : VK} {bk ct : L2.St → Hp → Prop} (h : te σ H rt) : tRet te ⟨nx, rt, bk, ct⟩ σ H := h
theorem k_retN {nx : L2.St → Hp → Prop} {rt : VK} {bk ct : L2.St → Hp → Prop} (h : rt .non H) : tRetN ⟨nx, rt, bk, ct⟩ σ H := h
theorem k_aug {nx : L2.St → Hp → Prop} {rt : VK} {bk ct : L2.St → Hp → Prop} {i : Nat} {f : Int → Int → Int} {a : Int} (e : σ[i]? = some (some (.int a))) (h : te σ H fun y H1 => ipI f (.int a) y H1 fun z H2 => nx (σ.set i (some z)) H2) : tAug i te (ipI f) ⟨nx, rt, bk, ct⟩ σ H := ⟨_, e, h⟩
theorem k_augL {nx : L2.St → Hp → Prop} {rt : VK} {bk ct : L2.St → Hp → Prop} {to ti : TE} (h : to σ H fun o H1 => ti σ H1 fun i H2 => rGetL K o i H2 fun x H3 => te σ H3 fun y H4 => ipI (fun i j => i + j) x y H4 fun z H5 => rSetL o i z H5 fun H6 => nx σ H6) : xAugL K to ti te ⟨nx, rt, bk, ct⟩ σ H := h
theorem k_ipI {f : Int → Int → Int} {a b : Int} (h : Q (.int (f a b)) H) : ipI f (.int a) (.int b) H Q := ⟨a, b, rfl, rfl, h⟩
theorem k_if (h : t σ H fun b H1 => if b = true then s1 D σ H1 else s2 D σ H1) : tIfS t s1 s2 D σ H := h
theorem k_var {i : Nat} {v : V} (e : σ[i]? = some (some v)) (h : Q v H) : tVar i σ H Q := ⟨v, e, h⟩
theorem k_c {v : V} (h : Q v H) : tC v σ H Q := h
theorem k_op {r : R2} (h : ta σ H fun x H1 => tb σ H1 fun y H2 => r x y H2 Q) : tOp r ta tb σ H Q := h
theorem k_un {r : V → Hp → VK → Prop} (h : ta σ H fun x H1 => r x H1 Q) : tUn r ta σ H Q := h
theorem k_I0 {g : Int → Int → V} {i j : Int} (h : Q (g i j) H) : rI0 g (.int i) (.int j) H Q := ⟨i, j, rfl, rfl, h⟩
theorem k_I {C : Int → Int → Prop} {g : Int → Int → V} {i j : Int} (hc : C i j) (h : Q (g i j) H) : rI C g (.int i) (.int j) H Q := ⟨i, j, rfl, rfl, hc, h⟩
theorem k_add {i j : Int} (h : Q (.int (i + j)) H) : xAdd (.int i) (.int j) H Q := ⟨i, j, rfl, rfl, h⟩
theorem k_sub {i j : Int} (h : Q (.int (i - j)) H) : xSub (.int i) (.int j) H Q := ⟨i, j, rfl, rfl, h⟩
theorem k_mul {i j : Int} (hc : CMul i j) (h : Q (.int (i * j)) H) : xMul (.int i) (.int j) H Q := ⟨i, j, rfl, rfl, hc, h⟩
theorem k_mulW {i j : Int} (hc : CMulW i j) (h : Q (.int (i * j)) H) : xMulW (.int i) (.int j) H Q := ⟨i, j, rfl, rfl, hc, h⟩
theorem k_div {i j : Int} (hc : CDiv i j) (h : Q (.int (i / j)) H) : xDiv (.int i) (.int j) H Q := ⟨i, j, rfl, rfl, hc, h⟩
theorem k_divW {i j : Int} (hc : CDivW i j) (h : Q (.int (i / j)) H) : xDivW (.int i) (.int j) H Q := ⟨i, j, rfl, rfl, hc, h⟩
theorem k_mod {i j : Int} (hc : 0 < j) (h : Q (.int (i % j)) H) : xMod (.int i) (.int j) H Q := ⟨i, j, rfl, rfl, hc, h⟩
theorem k_pow {i j : Int} (hc : CPow i j) (h : Q (.int (i ^ j.toNat)) H) : xPow (.int i) (.int j) H Q := ⟨i, j, rfl, rfl, hc, h⟩
theorem k_lt {i j : Int} (h : Q (.bl (decide (i < j))) H) : xLt (.int i) (.int j) H Q := ⟨i, j, rfl, rfl, h⟩
theorem k_le {i j : Int} (h : Q (.bl (decide (i ≤ j))) H) : xLe (.int i) (.int j) H Q := ⟨i, j, rfl, rfl, h⟩
theorem k_gt {i j : Int} (h : Q (.bl (decide (j < i))) H) : xGt (.int i) (.int j) H Q := ⟨i, j, rfl, rfl, h⟩
theorem k_ge {i j : Int} (h : Q (.bl (decide (j ≤ i))) H) : xGe (.int i) (.int j) H Q := ⟨i, j, rfl, rfl, h⟩
theorem k_neg {i : Int} (h : Q (.int (-i)) H) : xNeg (.int i) H Q := ⟨i, rfl, h⟩
theorem k_U {g : Int → V} {i : Int} (h : Q (g i) H) : rU g (.int i) H Q := ⟨i, rfl, h⟩
theorem k_eqI {i j : Int} (h : Q (.bl (decide (i = j))) H) : rEq (.int i) (.int j) H Q := ⟨rfl, by
  have e : decide (V.int i = V.int j) = decide (i = j) := by
    by_cases c : i = j
    · rw [decide_eq_true c, decide_eq_true (by rw [c])]
    · rw [decide_eq_false c, decide_eq_false (fun z => c (V.int.inj z))]
  rw [e]; exact h⟩
theorem k_neI {i j : Int} (h : Q (.bl (!decide (i = j))) H) : rNe (.int i) (.int j) H Q := ⟨rfl, by
  have e : decide (V.int i = V.int j) = decide (i = j) := by
    by_cases c : i = j
    · rw [decide_eq_true c, decide_eq_true (by rw [c])]
    · rw [decide_eq_false c, decide_eq_false (fun z => c (V.int.inj z))]
  rw [e]; exact h⟩
theorem k_test (h : te σ H fun x H1 => ∃ k, x = .bl k ∧ QT k H1) : tTest te σ H QT := h
theorem k_B (h : te σ H fun x H1 => ∃ k, x = .bl k ∧ QT k H1) : tB te σ H QT := h
theorem k_bl {b : Bool} {R : Bool → Prop} (h : R b) : ∃ k, V.bl b = .bl k ∧ R k := ⟨b, rfl, h⟩
theorem k_and (h : t σ H fun c H1 => if c = true then u σ H1 QT else QT false H1) : tAnd t u σ H QT := h
theorem k_or (h : t σ H fun c H1 => if c = true then QT true H1 else u σ H1 QT) : tOr t u σ H QT := h
theorem k_not (h : t σ H fun c H1 => QT (!c) H1) : tNot t σ H QT := h
theorem k_notV (h : ta σ H fun x H1 => ∃ c, x = .bl c ∧ Q (.bl (!c)) H1) : tNotV ta σ H Q := h
theorem k_andV (h : ta σ H fun x H1 => ∃ c, x = .bl c ∧ if c = true then tb σ H1 Q else Q (.bl false) H1) : tAndV ta tb σ H Q := h
theorem k_orV (h : ta σ H fun x H1 => ∃ c, x = .bl c ∧ if c = true then Q (.bl true) H1 else tb σ H1 Q) : tOrV ta tb σ H Q := h
theorem k_cb {r : List V → Hp → VK → Prop} (h : tr σ H fun vs H1 => r vs H1 Q) : tCB r tr σ H Q := h
theorem k_nil (h : QA [] H) : tNil σ H QA := h
theorem k_cons (h : ta σ H fun x H1 => tr σ H1 fun xs H2 => QA (x :: xs) H2) : tCons ta tr σ H QA := h
theorem k_call {sp : Sp} {dvs : List V} {E : XK} (h : tr σ H fun vs H1 => sp (vs ++ dvs) H1 Q E) : tCall sp dvs E tr σ H Q := h
theorem k_len {p : Addr} {ys : List V} (hs : SqL K H p ys) (h : Q (.int ys.length) H) : rLenX K [.ref p] H Q := ⟨p, ys, rfl, .inl hs, h⟩
theorem k_len0 {p : Addr} (hs : H p = some (.lst [])) (h : Q (.int 0) H) : rLenX K [.ref p] H Q := ⟨p, [], rfl, .inl (sl hs), h⟩
theorem k_lenT {p : Addr} {ys : List V} (hs : SqT K H p ys) (h : Q (.int ys.length) H) : rLenX K [.ref p] H Q := ⟨p, ys, rfl, .inr hs, h⟩
theorem k_lenI {p : Addr} {ns : List Int} (hs : SqL K H p (ns.map V.int)) (h : Q (.int ns.length) H) : rLenX K [.ref p] H Q := ⟨p, _, rfl, .inl hs, by rw [List.length_map]; exact h⟩
theorem k_list {p : Addr} {ys : List V} (hs : SqL K H p ys) (h : ∀ l, H l = none → Q (.ref l) (upd H l (.lst ys))) : rListOf K [.ref p] H Q := ⟨p, ys, rfl, .inl hs, h⟩
theorem k_lst (h : tr σ H fun xs H1 => xs.length ≤ sizeLine ∧ ∀ p, H1 p = none → Q (.ref p) (upd H1 p (.lst xs))) : tLst tr σ H Q := h
theorem k_tup (h : tr σ H fun xs H1 => xs.length ≤ sizeLine ∧ ∀ p, H1 p = none → Q (.ref p) (upd H1 p (.tup xs))) : tTup tr σ H Q := h
theorem k_new {xs : List V} {R : Addr → Prop} (hn : xs.length ≤ 100000) (h : ∀ p, H p = none → R p) : xs.length ≤ sizeLine ∧ ∀ p, H p = none → R p := ⟨sz hn, h⟩
theorem k_gtup {n : Nat} {g : TGs} {a : Addr} {xs : List V} (hs : SqT K H a xs) (hn : xs.length = n) (h : g xs σ H QS) : gTup K n g (.ref a) σ H QS := ⟨a, xs, rfl, hs, hn, h⟩
theorem k_gunl {n : Nat} {g : TGs} {a : Addr} {xs : List V} (hs : SqL K H a xs) (hn : xs.length = n) (h : g xs σ H QS) : gUnl K n g (.ref a) σ H QS := ⟨a, xs, rfl, hs, hn, h⟩
theorem k_gcons {g : TG} {gs : TGs} {v : V} {r : List V} (h : g v σ H fun σ' H' => gs r σ' H' QS) : gCons g gs (v :: r) σ H QS := ⟨v, r, rfl, h⟩
theorem k_gnil (h : QS σ H) : gNil [] σ H QS := ⟨rfl, h⟩
theorem k_gname {i : Nat} {v : V} (h : QS (σ.set i (some v)) H) : gName i v σ H QS := h
theorem k_gsub {to ti : TE} {ts : TSet} {v : V} (h : to σ H fun o H1 => ti σ H1 fun i H2 => ts o i v H2 fun H3 => QS σ H3) : gSub to ti ts v σ H QS := h
theorem k_setL {p : Addr} {xs : List V} {k : Int} {j : Nat} {v : V} {QH : Hp → Prop} (hp : H p = some (.lst xs)) (hj : ixN xs.length k = some j) (h : QH (upd H p (.lst (xs.set j v)))) : rSetL (.ref p) (.int k) v H QH := ⟨p, xs, k, j, rfl, rfl, hp, hj, h⟩
theorem k_ixL {p : Addr} {xs : List V} {i : Int} {v : V} (hs : SqL K H p xs) (ha : atI xs i = some v) (h : Q v H) : rIxL K (.ref p) (.int i) H Q := ⟨p, xs, i, v, rfl, rfl, hs, ha, h⟩
theorem k_ixT {p : Addr} {xs : List V} {i : Int} {v : V} (hs : SqT K H p xs) (ha : atI xs i = some v) (h : Q v H) : rIxT K (.ref p) (.int i) H Q := ⟨p, xs, i, v, rfl, rfl, hs, ha, h⟩
theorem k_min {p : Addr} {ns : List Int} (hs : SqL K H p (ns.map V.int)) (h0 : 0 < ns.length) (h : ∀ m, m ∈ ns → (∀ y, y ∈ ns → m ≤ y) → Q (.int m) H) : rMin K [.ref p] H Q := ⟨p, ns, rfl, hs, h0, h⟩
theorem k_max {p : Addr} {ns : List Int} (hs : SqL K H p (ns.map V.int)) (h0 : 0 < ns.length) (h : ∀ m, m ∈ ns → (∀ y, y ∈ ns → y ≤ m) → Q (.int m) H) : rMax K [.ref p] H Q := ⟨p, ns, rfl, hs, h0, h⟩
theorem k_popI {p : Addr} {ns : List Int} {i : Int} (hp : H p = some (.lst (ns.map V.int))) (h0 : 0 ≤ i) (h1 : i < ns.length) (h2 : i < 1000000) (h : Q (.int (ns.getD i.toNat 0)) (upd H p (.lst ((ns.eraseIdx i.toNat).map V.int)))) : rPopAt (.ref p) [.int i] H Q := by
  refine ⟨p, _, i, i.toNat, .int (ns.getD i.toNat 0), rfl, rfl, hp, by omega, by omega, ?_, ?_, ?_⟩
  · exact (ixN_seq (ixN_of h0 (by rw [List.length_map]; exact h1))).1
  · have hh : i.toNat < ns.length := by omega
    rw [List.getElem?_map, List.getElem?_eq_getElem hh]
    simp [List.getD_eq_getElem?_getD, List.getElem?_eq_getElem hh]
  · have e : (ns.map V.int).eraseIdx i.toNat = (ns.eraseIdx i.toNat).map V.int := map_erase ns _
    rw [e]; exact h
theorem k_sortedI {a : Addr} {ns : List Int} (hs : SqL K H a (ns.map V.int)) (h : ∀ (ns' : List Int) (p : Addr), ns'.Perm ns → ns'.Pairwise (· ≤ ·) → H p = none → Q (.ref p) (upd H p (.lst (ns'.map V.int)))) : rSortedI K [.ref a] H Q := ⟨a, ns, rfl, hs, h⟩
theorem k_max2 {i j : Int} (h : Q (.int (if j > i then j else i)) H) : rMax2 [.int i, .int j] H Q := ⟨i, j, rfl, h⟩
theorem k_min2 {i j : Int} (h : Q (.int (if j < i then j else i)) H) : rMin2 [.int i, .int j] H Q := ⟨i, j, rfl, h⟩
theorem k_bm {T : String} {r : V → List V → Hp → VK → Prop} (h : ta σ H fun x H1 => tyV K T x H1 ∧ tr σ H1 fun xs H2 => r x xs H2 Q) : tBM K T r ta tr σ H Q := h
theorem k_bm0 {T : String} {r : V → List V → Hp → VK → Prop} (h : ta σ H fun x H1 => tyV K T x H1 ∧ r x [] H1 Q) : tBM0 K T r ta σ H Q := h
theorem k_cat {p q : Addr} {xs ys : List V} (hp : H p = some (.lst xs)) (hq : H q = some (.lst ys)) (hz : xs.length + ys.length ≤ 100000) (h : ∀ l, H l = none → Q (.ref l) (upd H l (.lst (xs ++ ys)))) : rCat (.ref p) (.ref q) H Q := ⟨p, q, xs, ys, rfl, rfl, hp, hq, sz hz, h⟩
theorem k_tyL {p : Addr} {xs : List V} {R : Prop} (hp : SqL K H p xs) (h : R) : tyV K "list" (.ref p) H ∧ R := ⟨.inl ⟨rfl, _, hp⟩, h⟩
theorem k_append {p : Addr} {xs : List V} {y : V} (hp : H p = some (.lst xs)) (hn : xs.length < 100000) (h : Q .non (upd H p (.lst (xs ++ [y])))) : rAppend (.ref p) [y] H Q := ⟨p, xs, y, rfl, rfl, hp, szl hn, h⟩
theorem k_itT {b : Bool} {A B : Prop} (e : b = true) (h : A) : if b = true then A else B := by rw [if_pos e]; exact h
theorem k_itF {b : Bool} {A B : Prop} (e : b = false) (h : B) : if b = true then A else B := by rw [e]; exact h
theorem iteNT {A B : Prop} (h : B) : if (!true) = true then A else B := iteF h
theorem iteNF {A B : Prop} (h : A) : if (!false) = true then A else B := iteT h
theorem k_itDT {c A B : Prop} [Decidable c] (e : c) (h : A) : if decide c = true then A else B := by rw [if_pos (decide_eq_true e)]; exact h
theorem k_itDF {c A B : Prop} [Decidable c] (e : ¬ c) (h : B) : if decide c = true then A else B := by rw [decide_eq_false e]; exact h
theorem k_itNT {c A B : Prop} [Decidable c] (e : ¬ c) (h : A) : if (!decide c) = true then A else B := by rw [decide_eq_false e]; exact h
theorem k_itNF {c A B : Prop} [Decidable c] (e : c) (h : B) : if (!decide c) = true then A else B := by rw [decide_eq_true e]; exact h
theorem k_for {nx : L2.St → Hp → Prop} {rt : VK} {bk ct : L2.St → Hp → Prop} {wi : TI} {g : TG} {tb : TS} (h : wi σ H fun J H1 => ∃ W : Nat → Nat → L2.St → Hp → Prop, (∃ m, W 0 m σ H1) ∧ ∀ i m σ H, W i m σ H →
  (J.stop i H ∧ nx σ H) ∨ (J.go i H ∧ ∃ N : L2.St → Hp → Prop, (∀ σ' H', N σ' H' → ∃ m', m' < m ∧ W (i + 1) m' σ' H') ∧ ∀ x H', J.yld i H x H' → g x σ H' fun σ2 H2 => tb ⟨N, rt, nx, N⟩ σ2 H2)) : tFor wi g tb ⟨nx, rt, bk, ct⟩ σ H := h
theorem forL {nx : L2.St → Hp → Prop} {rt : VK} {b : Addr} {xs : List V} {g : TG} {tb : TS} (hs0 : SqL K H b xs) (Pv : Nat → L2.St → Hp → Prop) (h0 : Pv 0 σ H) (hl : ∀ i σ H, i ≤ xs.length → Pv i σ H → SqL K H b xs)
    (hs : ∀ (i : Nat) x σ H, xs[i]? = some x → Pv i σ H → g x σ H fun σ2 H2 => tb ⟨Pv (i + 1), rt, nx, Pv (i + 1)⟩ σ2 H2) (hd : ∀ σ H, Pv xs.length σ H → nx σ H) :
    ∃ a, V.ref b = .ref a ∧ (∃ xs, SqL K H a xs) ∧ ∃ W : Nat → Nat → L2.St → Hp → Prop, (∃ m, W 0 m σ H) ∧ ∀ i m σ H, W i m σ H →
      ((Itl K a).stop i H ∧ nx σ H) ∨ ((Itl K a).go i H ∧ ∃ N : L2.St → Hp → Prop, (∀ σ' H', N σ' H' → ∃ m', m' < m ∧ W (i + 1) m' σ' H') ∧ ∀ x H', (Itl K a).yld i H x H' → g x σ H' fun σ2 H2 => tb ⟨N, rt, nx, N⟩ σ2 H2) :=
  ⟨b, rfl, ⟨xs, hs0⟩, for_list (D := ⟨nx, rt, fun _ _ => False, fun _ _ => False⟩) Pv h0 hl hs hd⟩
theorem forR {nx : L2.St → Hp → Prop} {rt : VK} {lo : Int} {n : Nat} {g : TG} {tb : TS} (Pv : Nat → L2.St → Hp → Prop) (h0 : Pv 0 σ H)
    (hs : ∀ (i : Nat) σ H, i < n → Pv i σ H → g (.int (lo + i)) σ H fun σ2 H2 => tb ⟨Pv (i + 1), rt, nx, Pv (i + 1)⟩ σ2 H2) (hd : ∀ σ H, Pv n σ H → nx σ H) :
    ∃ W : Nat → Nat → L2.St → Hp → Prop, (∃ m, W 0 m σ H) ∧ ∀ i m σ H, W i m σ H →
      ((Itr lo n).stop i H ∧ nx σ H) ∨ ((Itr lo n).go i H ∧ ∃ N : L2.St → Hp → Prop, (∀ σ' H', N σ' H' → ∃ m', m' < m ∧ W (i + 1) m' σ' H') ∧ ∀ x H', (Itr lo n).yld i H x H' → g x σ H' fun σ2 H2 => tb ⟨N, rt, nx, N⟩ σ2 H2) :=
  for_range (D := ⟨nx, rt, fun _ _ => False, fun _ _ => False⟩) Pv h0 hs hd
theorem k_while {nx : L2.St → Hp → Prop} {rt : VK} {bk ct : L2.St → Hp → Prop} {c : TT} {tb : TS} (h : ∃ W : Nat → L2.St → Hp → Prop, (∃ m, W m σ H) ∧ ∀ m σ H, W m σ H →
  c σ H fun b H1 => if b = true then ∃ N : L2.St → Hp → Prop, (∀ σ' H', N σ' H' → ∃ m', m' < m ∧ W m' σ' H') ∧ tb ⟨N, rt, nx, N⟩ σ H1 else nx σ H1) : tWhile c tb ⟨nx, rt, bk, ct⟩ σ H := h
theorem whileW {nx : L2.St → Hp → Prop} {rt : VK} {bk ct : L2.St → Hp → Prop} {c : TT} {tb : TS} (W : Nat → L2.St → Hp → Prop) {m0 : Nat} (h0 : W m0 σ H)
    (hs : ∀ m σ H, W m σ H → c σ H fun b H1 => if b = true then tb ⟨fun σ' H' => ∃ m', m' < m ∧ W m' σ' H', rt, nx, fun σ' H' => ∃ m', m' < m ∧ W m' σ' H'⟩ σ H1 else nx σ H1)
    (mono : ∀ σ H (Q Q' : Bool → Hp → Prop), (∀ b H1, Q b H1 → Q' b H1) → c σ H Q → c σ H Q') : tWhile c tb ⟨nx, rt, bk, ct⟩ σ H := by
  refine ⟨W, ⟨m0, h0⟩, fun m σ H w => mono σ H _ _ (fun b H1 q => ?_) (hs m σ H w)⟩
  cases b with
  | true => exact ⟨_, fun σ' H' h => h, q⟩
  | false => exact q
theorem k_iList {R : It → Hp → Prop} (h : te σ H fun x H1 => ∃ a, x = .ref a ∧ (∃ xs, SqL K H1 a xs) ∧ R (Itl K a) H1) : iList K te σ H R := h
theorem k_iTup {R : It → Hp → Prop} (h : te σ H fun x H1 => ∃ a, x = .ref a ∧ (∃ xs, SqT K H1 a xs) ∧ R (Itt K a) H1) : iTup K te σ H R := h
theorem k_iZip {R : It → Hp → Prop} (h : tr σ H fun vs H1 => ∃ a b xs ys, vs = [.ref a, .ref b] ∧ SqL K H1 a xs ∧ SqL K H1 b ys ∧ R (Itz K a b) H1) : iZip K tr σ H R := h
theorem k_iEnum {R : It → Hp → Prop} (h : tr σ H fun vs H1 => ∃ a xs, vs = [.ref a] ∧ SqL K H1 a xs ∧ R (Ite K a) H1) : iEnum K tr σ H R := h
theorem k_iRng1 {R : It → Hp → Prop} (h : tr σ H fun vs H1 => ∃ j : Int, vs = [.int j] ∧ -(2 ^ 62) ≤ j ∧ j < 2 ^ 62 ∧ R (Itr 0 j.toNat) H1) : iRng1 tr σ H R := h
theorem k_iRng2 {R : It → Hp → Prop} (h : tr σ H fun vs H1 => ∃ i j : Int, vs = [.int i, .int j] ∧ (-(2 ^ 62) ≤ i ∧ i < 2 ^ 62 ∧ -(2 ^ 62) ≤ j ∧ j < 2 ^ 62) ∧ R (Itr i (j - i).toNat) H1) : iRng2 tr σ H R := h
theorem k_rj1 {j : Int} {R : Int → Prop} (h1 : -(2 ^ 62) ≤ j) (h2 : j < 2 ^ 62) (h : R j) : ∃ j' : Int, [V.int j] = [.int j'] ∧ -(2 ^ 62) ≤ j' ∧ j' < 2 ^ 62 ∧ R j' := ⟨j, rfl, h1, h2, h⟩
theorem k_rj2 {i j : Int} {R : Int → Int → Prop} (h1 : -(2 ^ 62) ≤ i ∧ i < 2 ^ 62 ∧ -(2 ^ 62) ≤ j ∧ j < 2 ^ 62) (h : R i j) : ∃ i' j' : Int, [V.int i, V.int j] = [.int i', .int j'] ∧ (-(2 ^ 62) ≤ i' ∧ i' < 2 ^ 62 ∧ -(2 ^ 62) ≤ j' ∧ j' < 2 ^ 62) ∧ R i' j' := ⟨i, j, rfl, h1, h⟩
theorem k_it {c A B : Prop} [Decidable c] (h1 : c → A) (h2 : ¬ c → B) : if decide c = true then A else B := by
  by_cases h : c
  · rw [if_pos (decide_eq_true h)]; exact h1 h
  · rw [decide_eq_false h]; exact h2 h
theorem k_itn {c A B : Prop} [Decidable c] (h1 : ¬ c → A) (h2 : c → B) : if (!decide c) = true then A else B := by
  by_cases h : c
  · rw [decide_eq_true h]; exact h2 h
  · rw [decide_eq_false h]; exact h1 h
theorem k_itb {b : Bool} {A B : Prop} (h1 : b = true → A) (h2 : b = false → B) : if b = true then A else B := by
  cases b with
  | true => exact h1 rfl
  | false => exact h2 rfl
theorem k_isi {x : V} {c : String} {tx : String} {b : Bool} (ht : TyX K H x (.type tx)) (hb : kitB tx c = some b) (h : Q (.bl b) H) : rIsi K [x, .ty c] H Q := ⟨x, .ty c, .type tx, .type c, b, rfl, .ty c, ht, kit_ty hb, h⟩

theorem ty_list {p : Addr} {xs : List V} (h : SqL K H p xs) : TyX K H (.ref p) (.type "list") := by
  rcases h with (h | ⟨o, h⟩) | ⟨o, its, n, h, c, _⟩
  · exact .base (.lst h)
  · exact .base (.frz h)
  · exact .kList h c
theorem k_isiL {p : Addr} {xs : List V} (hs : SqL K H p xs) (h : Q (.bl true) H) : rIsi K [.ref p, .ty "list"] H Q := k_isi (ty_list hs) (by decide +kernel) h
theorem k_isiLI {i : Int} (h : Q (.bl false) H) : rIsi K [.int i, .ty "list"] H Q := k_isi (.base (.int i)) (by decide +kernel) h
theorem k_isiI {i : Int} (h : Q (.bl true) H) : rIsi K [.int i, .ty "int"] H Q := k_isi (.base (.int i)) (by decide +kernel) h
theorem k_isiB {i : Int} (h : Q (.bl false) H) : rIsi K [.int i, .ty "bool"] H Q := k_isi (.base (.int i)) (by decide +kernel) h
theorem inV_ints (x : Int) : ∀ ns : List Int, inV (.int x) (ns.map V.int) = decide (x ∈ ns)
  | [] => rfl
  | n :: r => by
    show (eqV (.int n) (.int x) || inV (.int x) (r.map V.int)) = decide (x ∈ n :: r)
    rw [inV_ints x r]
    show ((n == x) || decide (x ∈ r)) = decide (x ∈ n :: r)
    by_cases h : n = x
    · subst h; simp
    · have : (n == x) = false := by simp [h]
      rw [this, Bool.false_or]
      have h' : ¬ x = n := fun e => h e.symm
      simp [h']
theorem flat_ints : ∀ ns : List Int, (ns.map V.int).all flatV = true
  | [] => rfl
  | _ :: r => by show (true && (r.map V.int).all flatV) = true; rw [flat_ints r]; rfl
theorem k_inI {p : Addr} {ns : List Int} {x : Int} (hs : SqL K H p (ns.map V.int)) (h : Q (.bl (decide (x ∈ ns))) H) : rIn K false (.int x) (.ref p) H Q :=
  ⟨p, _, rfl, .inl hs, rfl, flat_ints ns, by rw [if_neg Bool.false_ne_true, inV_ints]; exact h⟩
theorem k_notInI {p : Addr} {ns : List Int} {x : Int} (hs : SqL K H p (ns.map V.int)) (h : Q (.bl (!decide (x ∈ ns))) H) : rIn K true (.int x) (.ref p) H Q :=
  ⟨p, _, rfl, .inl hs, rfl, flat_ints ns, by rw [if_pos rfl, inV_ints]; exact h⟩
theorem k_intB {b : Bool} (h : Q (.int (if b then 1 else 0)) H) : rIntOf [.bl b] H Q := .inr ⟨b, rfl, h⟩
theorem at_int {ns : List Int} {i : Int} (h0 : 0 ≤ i) (h1 : i < ns.length) : atI (ns.map V.int) i = some (.int (ns.getD i.toNat 0)) := by
  obtain ⟨k, rfl⟩ : ∃ k : Nat, i = k := ⟨i.toNat, by omega⟩
  have h : k < ns.length := by omega
  refine atI_nat ?_
  rw [List.getElem?_map]
  simp [List.getElem?_eq_getElem h, List.getD_eq_getElem?_getD]
theorem k_ixI {p : Addr} {ns : List Int} {i : Int} (hs : SqL K H p (ns.map V.int)) (h0 : 0 ≤ i) (h1 : i < ns.length) (h : Q (.int (ns.getD i.toNat 0)) H) : rIxL K (.ref p) (.int i) H Q := k_ixL hs (at_int h0 h1) h
theorem k_eqD {x y : V} {c d : PyData} {n : Nat} (hx : Dp K H x c) (hy : Dp K H y d) (h1 : Sh n c) (h2 : Sh n d) (hn : n ≤ 64) (h : Q (.bl (PyData.eqv c d)) H) : rEqD K x y H Q := ⟨c, d, hx, hy, h1.shaped hn, h2.shaped hn, h⟩
theorem k_neD {x y : V} {c d : PyData} {n : Nat} (hx : Dp K H x c) (hy : Dp K H y d) (h1 : Sh n c) (h2 : Sh n d) (hn : n ≤ 64) (h : Q (.bl (!PyData.eqv c d)) H) : rNeD K x y H Q := ⟨c, d, hx, hy, h1.shaped hn, h2.shaped hn, h⟩
theorem k_neD0 {x y : V} {c : PyData} {n : Nat} (hx : Dp K H x c) (hy : Dp K H y c) (h1 : Sh n c) (hn : n ≤ 64) (h : Q (.bl false) H) : rNeD K x y H Q := k_neD hx hy h1 h1 hn (by rw [h1.refl]; exact h)
theorem k_eqD1 {x y : V} {c : PyData} {n : Nat} (hx : Dp K H x c) (hy : Dp K H y c) (h1 : Sh n c) (hn : n ≤ 64) (h : Q (.bl true) H) : rEqD K x y H Q := k_eqD hx hy h1 h1 hn (by rw [h1.refl]; exact h)
theorem k_getI {p : Addr} {ns : List Int} {i : Int} (hs : SqL K H p (ns.map V.int)) (h0 : 0 ≤ i) (h1 : i < ns.length) (h : Q (.int (ns.getD i.toNat 0)) H) : rGetL K (.ref p) (.int i) H Q := ⟨p, _, i, _, rfl, rfl, hs, h0, at_int h0 h1, h⟩
theorem k_setI {p : Addr} {ns : List Int} {k v : Int} {QH : Hp → Prop} (hp : H p = some (.lst (ns.map V.int))) (h0 : 0 ≤ k) (h1 : k < ns.length) (h : QH (upd H p (.lst ((ns.set k.toNat v).map V.int)))) : rSetL (.ref p) (.int k) (.int v) H QH :=
  ⟨p, _, k, k.toNat, rfl, rfl, hp, ixN_of h0 (by rw [List.length_map]; exact h1), by rw [List.map_set] at h; exact h⟩
theorem k_rep {p : Addr} {xs : List V} {k : Int} (hp : H p = some (.lst xs)) (h0 : 0 ≤ k) (h1 : k < 100000) (h2 : xs.length * k.toNat ≤ 100000) (h : ∀ l, H l = none → Q (.ref l) (upd H l (.lst (List.replicate k.toNat xs).flatten))) : rRep (.ref p) (.int k) H Q := ⟨p, k, xs, rfl, rfl, hp, by omega, by omega, sz h2, h⟩
theorem k_eqB {a b : Bool} (h : Q (.bl (decide (a = b))) H) : rEq (.bl a) (.bl b) H Q := ⟨rfl, by
  have e : decide (V.bl a = V.bl b) = decide (a = b) := by cases a <;> cases b <;> decide
  rw [e]; exact h⟩
theorem k_neB {a b : Bool} (h : Q (.bl (!decide (a = b))) H) : rNe (.bl a) (.bl b) H Q := ⟨rfl, by
  have e : decide (V.bl a = V.bl b) = decide (a = b) := by cases a <;> cases b <;> decide
  rw [e]; exact h⟩
/-- new objects, the heap behind as a letter -/
theorem k_newL {xs : List V} (hn : xs.length ≤ 100000) (h : ∀ p H', H p = none → Same H H' → H' p = some (.lst xs) → Q (.ref p) H') : xs.length ≤ sizeLine ∧ ∀ p, H p = none → Q (.ref p) (upd H p (.lst xs)) :=
  ⟨sz hn, fun p np => h p _ np (same_new np) upd_same⟩
theorem k_newT {xs : List V} (hn : xs.length ≤ 100000) (h : ∀ p H', H p = none → Same H H' → H' p = some (.tup xs) → Q (.ref p) H') : xs.length ≤ sizeLine ∧ ∀ p, H p = none → Q (.ref p) (upd H p (.tup xs)) :=
  ⟨sz hn, fun p np => h p _ np (same_new np) upd_same⟩
theorem k_listN {p : Addr} {ys : List V} (hs : SqL K H p ys) (h : ∀ l H', H l = none → Same H H' → H' l = some (.lst ys) → Q (.ref l) H') : rListOf K [.ref p] H Q := k_list hs fun l nl => h l _ nl (same_new nl) upd_same
theorem k_slL {a : Addr} {xs : List V} {lo hi : Option Int} (hs : SqL K H a xs) (h : ∀ p H', H p = none → Same H H' → H' p = some (.lst (cutV xs lo hi)) → Q (.ref p) H') : rSlL K (.ref a) lo hi H Q := ⟨a, xs, rfl, hs, fun p np => h p _ np (same_new np) upd_same⟩
theorem k_sl {r : V → Option Int → Option Int → Hp → VK → Prop} {tl th : TO} (h : te σ H fun x H1 => tl σ H1 fun l H2 => th σ H2 fun u H3 => r x l u H3 Q) : tSl r te tl th σ H Q := h
theorem k_nopart {QO : Option Int → Hp → Prop} (h : QO none H) : tNoPart σ H QO := h
theorem k_part {QO : Option Int → Hp → Prop} (h : te σ H fun x H1 => ∃ i, x = .int i ∧ QO (some i) H1) : tPart te σ H QO := h
theorem k_int {i : Int} {R : Int → Prop} (h : R i) : ∃ j, V.int i = .int j ∧ R j := ⟨i, rfl, h⟩
theorem rg_ints (a b : Int) : rgV a b = ((List.range (b - a).toNat).map fun i => a + (i : Nat)).map V.int := by
  unfold rgV; rw [List.map_map]; rfl
theorem k_listRg {tg : L2.St → Hp → (Int → Int → Hp → Prop) → Prop} (h : tg σ H fun a b H1 => RgOk a b ∧ ∀ q, H1 q = none → Q (.ref q) (upd H1 q (.lst (rgV a b)))) : tLstRg tg σ H Q := h
theorem k_rg1 {QR : Int → Int → Hp → Prop} (h : ta σ H fun x H1 => ∃ n, x = .int n ∧ QR 0 n H1) : tRg1 ta σ H QR := h
theorem k_rg2 {QR : Int → Int → Hp → Prop} (h : ta σ H fun x H1 => tb σ H1 fun y H2 => ∃ i j, x = .int i ∧ y = .int j ∧ QR i j H2) : tRg2 ta tb σ H QR := h
theorem k_int2 {i j : Int} {R : Int → Int → Prop} (h : R i j) : ∃ i' j', V.int i = .int i' ∧ V.int j = .int j' ∧ R i' j' := ⟨i, j, rfl, rfl, h⟩
theorem k_rgN {a b : Int} (hr : RgOk a b) (h : ∀ p H', H p = none → Same H H' → H' p = some (.lst (rgV a b)) → Q (.ref p) H') : RgOk a b ∧ ∀ q, H q = none → Q (.ref q) (upd H q (.lst (rgV a b))) := ⟨hr, fun q nq => h q _ nq (same_new nq) upd_same⟩
theorem dp_of_int {i j : Int} (e : i = j) : Dp K H (.int i) (.int j) := e ▸ .int i
end
/-! ### heaps with some places out of sight -/
def hid (S : List Addr) (H : Hp) : Hp := fun b => if b ∈ S then none else H b
theorem hid_ne {S : List Addr} {H : Hp} {b : Addr} (h : b ∉ S) : hid S H b = H b := if_neg h
theorem hid_in {S : List Addr} {H : Hp} {b : Addr} (h : b ∈ S) : hid S H b = none := if_pos h
theorem hid_some {S : List Addr} {H : Hp} {b : Addr} {o : HO} (h : hid S H b = some o) : b ∉ S ∧ H b = some o := by
  unfold hid at h
  split at h
  · cases h
  · exact ⟨by assumption, h⟩
theorem hid_same (S : List Addr) (H : Hp) : Same (hid S H) H := fun b o h => (hid_some h).2
theorem hid_mono {S : List Addr} {H H' : Hp} (e : Same H H') : Same (hid S H) (hid S H') := fun b o h => by
  obtain ⟨n, h⟩ := hid_some h
  rw [hid_ne n]
  exact e b o h
theorem hid_sub {S S' : List Addr} {H : Hp} (h : ∀ a ∈ S, a ∈ S') : Same (hid S' H) (hid S H) := fun b o e => by
  obtain ⟨n, e⟩ := hid_some e
  rw [hid_ne fun z => n (h b z)]
  exact e
/-- a change at a hidden place -/
theorem hid_upd {S : List Addr} {H : Hp} {p : Addr} {o : HO} (h : p ∈ S) : hid S (upd H p o) = hid S H := by
  funext b
  unfold hid
  split
  · rfl
  · rename_i n
    rw [upd_ne fun e => n (by rw [e]; exact h)]
theorem same_hid_upd {S : List Addr} {H0 H : Hp} {p : Addr} {o : HO} (e : Same H0 (hid S H)) (h : p ∈ S) : Same H0 (hid S (upd H p o)) := by rw [hid_upd h]; exact e
/-- what the law's data says stays when a fresh object is changed -/
theorem same_hid_mut {S : List Addr} {H0 H : Hp} {p : Addr} {o : HO} (e : Same H0 (hid S H)) (h : H0 p = none) : Same H0 (hid S (upd H p o)) := fun b u hb => by
  have := e b u hb
  obtain ⟨n, q⟩ := hid_some this
  rw [hid_ne n, upd_ne (ne_of_none hb h)]
  exact q
theorem hid_more {S S' : List Addr} {H H' : Hp} (e : Same (hid S H) (hid S H')) (h : ∀ a ∈ S, a ∈ S') : Same (hid S' H) (hid S' H') := fun b o hb => by
  obtain ⟨n, q⟩ := hid_some hb
  have n' : b ∉ S := fun z => n (h b z)
  have := e b o (by rw [hid_ne n']; exact q)
  rw [hid_ne n'] at this
  rw [hid_ne n]
  exact this
theorem same_hid_new {S : List Addr} {H : Hp} {p : Addr} {o : HO} (h : H p = none) : Same (hid S H) (hid S (upd H p o)) := hid_mono (same_new h)

theorem same_of_hid {S : List Addr} {H0 H1 H2 : Hp} (h : Same H0 H1) (f : ∀ a ∈ S, H0 a = none) (e : Same (hid S H1) (hid S H2)) : Same H0 H2 := fun b o hb => by
  have n : b ∉ S := fun z => by rw [f b z] at hb; cases hb
  have := e b o (by rw [hid_ne n]; exact h b o hb)
  rw [hid_ne n] at this
  exact this
theorem free1 {H0 : Hp} {p : Addr} (h : H0 p = none) : ∀ a ∈ [p], H0 a = none := fun a z => by rw [List.mem_singleton.mp z]; exact h
theorem cutTo {ns : List Int} (k : Nat) : cutV (ns.map V.int) none (some (k : Int)) = (ns.take k).map V.int := by
  unfold cutV
  rw [HT.sIx_none, HT.sIx_nat, List.drop_zero, List.length_map, Nat.sub_zero, List.map_take]
  by_cases h : k ≤ ns.length
  · rw [Nat.min_eq_left h]
  · rw [Nat.min_eq_right (by omega), List.take_of_length_le (by simp), List.take_of_length_le (by simp; omega)]
/-! ### the law's purse: a list of the cells and the turn -/
structure Pu (H : Hp) (pu ce : Addr) (n : Nat) (t : Int) : Prop where
  hp : H pu = some (.lst [.ref ce, .int t])
  hc : ∃ cs : List Int, cs.length = n ∧ H ce = some (.lst (cs.map V.int))
  n0 : 0 < n
  n1 : n ≤ 63
  t0 : 0 ≤ t
theorem Pu.ne {H : Hp} {pu ce : Addr} {n : Nat} {t : Int} (h : Pu H pu ce n t) : pu ≠ ce := fun e => by
  obtain ⟨cs, hl, hc⟩ := h.hc
  have hp := h.hp
  rw [e, hc] at hp
  cases cs with
  | nil => injection hp with hp; injection hp with hp; cases hp
  | cons x r => injection hp with hp; injection hp with hp; injection hp with h1 h2; cases h1
theorem Pu.fresh {H : Hp} {pu ce : Addr} {n : Nat} {t : Int} (h : Pu H pu ce n t) {p : Addr} (np : H p = none) : p ∉ [pu, ce] := fun z => by
  obtain ⟨cs, hl, hc⟩ := h.hc
  rcases List.mem_cons.mp z with rfl | z
  · rw [h.hp] at np; cases np
  · rcases List.mem_cons.mp z with rfl | z
    · rw [hc] at np; cases np
    · cases z
theorem Pu.upd {H : Hp} {pu ce : Addr} {n : Nat} {t : Int} (h : Pu H pu ce n t) {p : Addr} {o : HO} (np : p ∉ [pu, ce]) : Pu (upd H p o) pu ce n t := by
  have h1 : pu ≠ p := fun e => np (by rw [e]; exact List.mem_cons_self)
  have h2 : ce ≠ p := fun e => np (by rw [e]; exact List.mem_cons_of_mem _ List.mem_cons_self)
  obtain ⟨cs, hl, hc⟩ := h.hc
  exact ⟨by rw [upd_ne h1]; exact h.hp, ⟨cs, hl, by rw [upd_ne h2]; exact hc⟩, h.n0, h.n1, h.t0⟩
theorem Pu.same {H H' : Hp} {pu ce : Addr} {n : Nat} {t : Int} (h : Pu H pu ce n t) (e : Same H H') : Pu H' pu ce n t := by
  obtain ⟨cs, hl, hc⟩ := h.hc
  exact ⟨e _ _ h.hp, ⟨cs, hl, e _ _ hc⟩, h.n0, h.n1, h.t0⟩
/-- an object that is none of the purse's stays as it is -/
theorem keeps {S : List Addr} {H H' : Hp} (e : Same (hid S H) (hid S H')) {b : Addr} {o : HO} (hb : H b = some o) (n : b ∉ S) : H' b = some o := by
  have := e b o (by rw [hid_ne n]; exact hb)
  rw [hid_ne n] at this
  exact this
theorem fresh_hid {S : List Addr} {H H' : Hp} (e : Same (hid S H) (hid S H')) {b : Addr} (hb : H' b = none) (n : b ∉ S) : H b = none := by
  have := e.free (l := b) (by rw [hid_ne n]; exact hb)
  rw [hid_ne n] at this
  exact this
theorem getD_set_len {α : Type} (l : List α) (i : Nat) (v : α) : (l.set i v).length = l.length := List.length_set
theorem map_set_int (cs : List Int) (i : Nat) (v : Int) : (cs.map V.int).set i (.int v) = (cs.set i v).map V.int := by rw [List.map_set]

/-! ### the law's other purse: [a number, a mark, how many were drawn] -/
structure Le (H : Hp) (pu : Addr) (k : Int) : Prop where
  hp : ∃ x f : Int, H pu = some (.lst [.int x, .int f, .int k]) ∧ (f = 0 → 0 ≤ x ∧ x < 2147483629)
  k0 : 0 ≤ k
theorem Le.fresh {H : Hp} {pu : Addr} {k : Int} (h : Le H pu k) {p : Addr} (np : H p = none) : p ∉ [pu] := fun z => by
  obtain ⟨x, f, hp, _⟩ := h.hp
  rw [List.mem_singleton.mp z, hp] at np
  cases np
theorem Le.upd {H : Hp} {pu : Addr} {k : Int} (h : Le H pu k) {p : Addr} {o : HO} (np : p ∉ [pu]) : Le (upd H p o) pu k := by
  obtain ⟨x, f, hp, hx⟩ := h.hp
  exact ⟨⟨x, f, by rw [upd_ne fun e => np (by rw [e]; exact List.mem_singleton.mpr rfl)]; exact hp, hx⟩, h.k0⟩
theorem Le.same {H H' : Hp} {pu : Addr} {k : Int} (h : Le H pu k) (e : Same H H') : Le H' pu k := by
  obtain ⟨x, f, hp, hx⟩ := h.hp
  exact ⟨⟨x, f, e _ _ hp, hx⟩, h.k0⟩

/-! ### comprehensions whose block leaves the heap as it is -/
section
variable {K : PySem.W.Frag} {σ : L2.St} {H1 : Hp} {Q : VK} {g : TG} {tt : TT} {te : TE} {vs : List Nat}
theorem k_lc {wi : TI} (h : wi σ H1 fun J H1 => ∀ D, H1 D = none → ∃ W : Nat → Nat → Hp → Prop, (∃ m, W 0 m (upd H1 D (.lst []))) ∧ ∀ i m H, W i m H →
  (J.stop i H ∧ Q (.ref D) H) ∨ (J.go i H ∧ ∃ Nx : Hp → Prop, (∀ H', Nx H' → ∃ m', m' < m ∧ W (i + 1) m' H') ∧ ∀ x H', J.yld i H x H' → g x (wipe σ vs) H' fun σ2 H2 => wipe σ2 vs = wipe σ vs ∧ tt σ2 H2 fun b H3 =>
    if b = true then te σ2 H3 fun y H4 => ∃ acc, H4 D = some (.lst acc) ∧ acc.length < sizeLine ∧ Nx (upd H4 D (.lst (acc ++ [y]))) else Nx H3)) : tLc wi g tt te vs σ H1 Q := h
theorem k_wipe {σ' : L2.St} {R : Prop} (e : wipe σ' vs = wipe σ vs) (h : R) : wipe σ' vs = wipe σ vs ∧ R := ⟨e, h⟩
theorem k_yes {QT : Bool → Hp → Prop} (h : QT true H1) : tYes σ H1 QT := h
theorem take_filterMap {α β : Type} {f : α → Option β} {ps : List α} {i : Nat} {p : α} (h : ps[i]? = some p) : (ps.take (i + 1)).filterMap f = (ps.take i).filterMap f ++ (f p).toList := by
  rw [List.take_add_one, h, List.filterMap_append]
  simp [List.filterMap_cons]
  cases f p <;> rfl
/-- over a list of which ps tells the items -/
theorem lc_pure {QD : Addr → Hp → Prop} {α : Type} {a : Addr} {xs : List V} (hs : SqL K H1 a xs) (ps : List α) (hl : xs.length = ps.length) (hz : ps.length ≤ 50000) (f : α → Option V)
    (step : ∀ (i : Nat) x p H', xs[i]? = some x → ps[i]? = some p → Same H1 H' → ∀ (R : V → Hp → Prop) (R0 : Hp → Prop), (∀ y, f p = some y → R y H') → (f p = none → R0 H') →
      g x (wipe σ vs) H' fun σ2 H2 => wipe σ2 vs = wipe σ vs ∧ tt σ2 H2 fun b H3 => if b = true then te σ2 H3 R else R0 H3)
    (h : ∀ D H', H1 D = none → Same H1 H' → H' D = some (.lst (ps.filterMap f)) → QD D H') :
    ∃ a', V.ref a = .ref a' ∧ (∃ xs, SqL K H1 a' xs) ∧ ∀ D, H1 D = none → ∃ W : Nat → Nat → Hp → Prop, (∃ m, W 0 m (upd H1 D (.lst []))) ∧ ∀ i m H, W i m H →
      ((Itl K a').stop i H ∧ QD D H) ∨ ((Itl K a').go i H ∧ ∃ Nx : Hp → Prop, (∀ H', Nx H' → ∃ m', m' < m ∧ W (i + 1) m' H') ∧ ∀ x H', (Itl K a').yld i H x H' → g x (wipe σ vs) H' fun σ2 H2 => wipe σ2 vs = wipe σ vs ∧ tt σ2 H2 fun b H3 =>
        if b = true then te σ2 H3 fun y H4 => ∃ acc, H4 D = some (.lst acc) ∧ acc.length < sizeLine ∧ Nx (upd H4 D (.lst (acc ++ [y]))) else Nx H3) := by
  refine ⟨a, rfl, ⟨xs, hs⟩, fun D nD => lc_list (xs := xs) (fun i H => Same H1 H ∧ H D = some (.lst ((ps.take i).filterMap f))) ⟨same_new nD, by rw [upd_same]; simp⟩ (fun i H _ e => e.1.seq hs) ?_ ?_⟩
  · rintro i x H hx ⟨sm, hD⟩
    have hi : i < xs.length := (List.getElem?_eq_some_iff.mp hx).1
    obtain ⟨p, hp⟩ : ∃ p, ps[i]? = some p := ⟨ps[i]'(by omega), List.getElem?_eq_getElem (by omega)⟩
    have tk := take_filterMap (f := f) hp
    refine step i x p H hx hp sm _ _ (fun y hy => ⟨_, hD, szl ?_, same_mut sm nD, ?_⟩) (fun hn => ⟨sm, ?_⟩)
    · have := List.length_filterMap_le f (ps.take i)
      rw [List.length_take] at this
      omega
    · rw [upd_same, tk, hy]; rfl
    · rw [tk, hn, hD]; simp
  · rintro H ⟨sm, hD⟩
    rw [hl, List.take_length] at hD
    exact h D H nD sm hD
/-- the same where a turn may make new objects -/
theorem lc_grow {QD : Addr → Hp → Prop} {α : Type} {a : Addr} {xs : List V} (hs : SqL K H1 a xs) (ps : List α) (hl : xs.length = ps.length) (hz : ps.length ≤ 50000) (f : α → Option V)
    (step : ∀ (i : Nat) x p H', xs[i]? = some x → ps[i]? = some p → Same H1 H' → ∀ (R : V → Hp → Prop) (R0 : Hp → Prop), (∀ y H'', f p = some y → Same H' H'' → R y H'') → (∀ H'', f p = none → Same H' H'' → R0 H'') →
      g x (wipe σ vs) H' fun σ2 H2 => wipe σ2 vs = wipe σ vs ∧ tt σ2 H2 fun b H3 => if b = true then te σ2 H3 R else R0 H3)
    (h : ∀ D H', H1 D = none → Same H1 H' → H' D = some (.lst (ps.filterMap f)) → QD D H') :
    ∃ a', V.ref a = .ref a' ∧ (∃ xs, SqL K H1 a' xs) ∧ ∀ D, H1 D = none → ∃ W : Nat → Nat → Hp → Prop, (∃ m, W 0 m (upd H1 D (.lst []))) ∧ ∀ i m H, W i m H →
      ((Itl K a').stop i H ∧ QD D H) ∨ ((Itl K a').go i H ∧ ∃ Nx : Hp → Prop, (∀ H', Nx H' → ∃ m', m' < m ∧ W (i + 1) m' H') ∧ ∀ x H', (Itl K a').yld i H x H' → g x (wipe σ vs) H' fun σ2 H2 => wipe σ2 vs = wipe σ vs ∧ tt σ2 H2 fun b H3 =>
        if b = true then te σ2 H3 fun y H4 => ∃ acc, H4 D = some (.lst acc) ∧ acc.length < sizeLine ∧ Nx (upd H4 D (.lst (acc ++ [y]))) else Nx H3) := by
  refine ⟨a, rfl, ⟨xs, hs⟩, fun D nD => lc_list (xs := xs) (fun i H => Same H1 H ∧ H D = some (.lst ((ps.take i).filterMap f))) ⟨same_new nD, by rw [upd_same]; simp⟩ (fun i H _ e => e.1.seq hs) ?_ ?_⟩
  · rintro i x H hx ⟨sm, hD⟩
    have hi : i < xs.length := (List.getElem?_eq_some_iff.mp hx).1
    obtain ⟨p, hp⟩ : ∃ p, ps[i]? = some p := ⟨ps[i]'(by omega), List.getElem?_eq_getElem (by omega)⟩
    have tk := take_filterMap (f := f) hp
    refine step i x p H hx hp sm _ _ (fun y H'' hy s2 => ⟨_, s2 _ _ hD, szl ?_, same_mut (sm.trans s2) nD, ?_⟩) (fun H'' hn s2 => ⟨sm.trans s2, ?_⟩)
    · have := List.length_filterMap_le f (ps.take i)
      rw [List.length_take] at this
      omega
    · rw [upd_same, tk, hy]; rfl
    · rw [tk, hn, s2 _ _ hD]; simp
  · rintro H ⟨sm, hD⟩
    rw [hl, List.take_length] at hD
    exact h D H nD sm hD
theorem range_take {n i : Nat} (h : i < n) : (List.range n)[i]? = some i := by simp [h]
/-- over a range -/
theorem lc_pureR {QD : Addr → Hp → Prop} {lo : Int} {n : Nat} (hz : n ≤ 50000) (f : Nat → Option V)
    (step : ∀ (i : Nat) H', i < n → Same H1 H' → ∀ (R : V → Hp → Prop) (R0 : Hp → Prop), (∀ y, f i = some y → R y H') → (f i = none → R0 H') →
      g (.int (lo + (i : Nat))) (wipe σ vs) H' fun σ2 H2 => wipe σ2 vs = wipe σ vs ∧ tt σ2 H2 fun b H3 => if b = true then te σ2 H3 R else R0 H3)
    (h : ∀ D H', H1 D = none → Same H1 H' → H' D = some (.lst ((List.range n).filterMap f)) → QD D H') :
    ∀ D, H1 D = none → ∃ W : Nat → Nat → Hp → Prop, (∃ m, W 0 m (upd H1 D (.lst []))) ∧ ∀ i m H, W i m H →
      ((Itr lo n).stop i H ∧ QD D H) ∨ ((Itr lo n).go i H ∧ ∃ Nx : Hp → Prop, (∀ H', Nx H' → ∃ m', m' < m ∧ W (i + 1) m' H') ∧ ∀ x H', (Itr lo n).yld i H x H' → g x (wipe σ vs) H' fun σ2 H2 => wipe σ2 vs = wipe σ vs ∧ tt σ2 H2 fun b H3 =>
        if b = true then te σ2 H3 fun y H4 => ∃ acc, H4 D = some (.lst acc) ∧ acc.length < sizeLine ∧ Nx (upd H4 D (.lst (acc ++ [y]))) else Nx H3) := by
  refine fun D nD => lc_range (fun i H => Same H1 H ∧ H D = some (.lst (((List.range n).take i).filterMap f))) ⟨same_new nD, by rw [upd_same]; simp⟩ ?_ ?_
  · rintro i H hi ⟨sm, hD⟩
    have tk := take_filterMap (f := f) (range_take hi)
    refine step i H hi sm _ _ (fun y hy => ⟨_, hD, szl ?_, same_mut sm nD, ?_⟩) (fun hn => ⟨sm, ?_⟩)
    · have := List.length_filterMap_le f ((List.range n).take i)
      rw [List.length_take, List.length_range] at this
      omega
    · rw [upd_same, tk, hy]; rfl
    · rw [tk, hn, hD]; simp
  · rintro H ⟨sm, hD⟩
    rw [List.take_of_length_le (by simp)] at hD
    exact h D H nD sm hD
end
/-! ### min, max of a pair -/
def rMinT (K : PySem.W.Frag) : List V → Hp → VK → Prop := fun xs H Q => ∃ (p : Addr) (a b : Int), xs = [.ref p] ∧ SqT K H p [.int a, .int b] ∧ Q (.int (min a b)) H
def rMaxT (K : PySem.W.Frag) : List V → Hp → VK → Prop := fun xs H Q => ∃ (p : Addr) (a b : Int), xs = [.ref p] ∧ SqT K H p [.int a, .int b] ∧ Q (.int (max a b)) H
theorem reads_int {h : Heap} {v : Value} {n : Int} {as : List Addr} (r : Reads h v (.int n) as) : ∃ t, v = .int n t := by
  cases r; exact ⟨_, rfl⟩
theorem alike2 (a b : Int) : PySem.W.AlikeAll [.int a, .int b] := by
  refine ⟨fun x hx y hy => ?_, fun x hx => ?_⟩
  · simp only [List.mem_cons, List.not_mem_nil, or_false] at hx hy
    rcases hx with rfl | rfl <;> rcases hy with rfl | rfl <;> rfl
  · simp only [List.mem_cons, List.not_mem_nil, or_false] at hx
    rcases hx with rfl | rfl <;> (intro z; cases z)
theorem q_minT {X : Cx} (hc : X.calm = true) (hu : X.A.units + 64 < cLine) : CallR X (.builtin "min") (rMinT X.K) := by
  intro pins s σ H vs us Q I r h
  obtain ⟨p, a, b, rfl, hs, q⟩ := h
  obtain ⟨its, rv, hl, _⟩ := I.tuple hs
  rw [Vals.ref1 r]
  have ri : IntsAre its [a, b] := Vals.ints (ns := [a, b]) rv
  refine PySem.W.min_tuple_data (x := .int a) (xs := [.int b]) (as := []) (I.ok.hd hc) hl (ri.reads _) (alike2 a b) ?_ fun i v h' tk bs hi rd hk => ?_
  · have : PyData.depthAll [.int a, .int b] = 0 := rfl
    omega
  · rw [show PySem.W.minD (.int a) [.int b] = .int (min a b) from PySem.W.minD_ints a [b]] at rd
    obtain ⟨t, rfl⟩ := reads_int rd
    exact ⟨.int _, H, I.kept hk, ⟨_, rfl⟩, q⟩
theorem q_maxT {X : Cx} (hc : X.calm = true) (hu : X.A.units + 64 < cLine) : CallR X (.builtin "max") (rMaxT X.K) := by
  intro pins s σ H vs us Q I r h
  obtain ⟨p, a, b, rfl, hs, q⟩ := h
  obtain ⟨its, rv, hl, _⟩ := I.tuple hs
  rw [Vals.ref1 r]
  have ri : IntsAre its [a, b] := Vals.ints (ns := [a, b]) rv
  refine PySem.W.max_tuple_data (x := .int a) (xs := [.int b]) (as := []) (I.ok.hd hc) hl (ri.reads _) (alike2 a b) ?_ fun i v h' tk bs hi rd hk => ?_
  · have : PyData.depthAll [.int a, .int b] = 0 := rfl
    omega
  · rw [show PySem.W.maxD (.int a) [.int b] = .int (max a b) from PySem.W.maxD_ints a [b]] at rd
    obtain ⟨t, rfl⟩ := reads_int rd
    exact ⟨.int _, H, I.kept hk, ⟨_, rfl⟩, q⟩
theorem k_minT {K : PySem.W.Frag} {H : Hp} {Q : VK} {p : Addr} {a b : Int} (hs : SqT K H p [.int a, .int b]) (h : Q (.int (min a b)) H) : rMinT K [.ref p] H Q := ⟨p, a, b, rfl, hs, h⟩
theorem k_maxT {K : PySem.W.Frag} {H : Hp} {Q : VK} {p : Addr} {a b : Int} (hs : SqT K H p [.int a, .int b]) (h : Q (.int (max a b)) H) : rMaxT K [.ref p] H Q := ⟨p, a, b, rfl, hs, h⟩
end Cm

namespace Cm
open PySem PySem.Spec PyProof.Rows L2
/-! ### steps of a reading, found by instances -/
class Stp (p : Prop) (q : outParam Prop) : Prop where
  run : q → p
class Stps (p : Prop) (q : outParam Prop) : Prop where
  run : q → p
class Stps1 (p : Prop) (q : outParam Prop) : Prop where
  run : q → p
instance (priority := low) stps_nil {p : Prop} : Stps p p := ⟨id⟩
instance (priority := high) stps_cons {p q r : Prop} [a : Stp p q] [b : Stps q r] : Stps p r := ⟨fun h => a.run (b.run h)⟩
instance stps_one {p q r : Prop} [a : Stp p q] [b : Stps q r] : Stps1 p r := ⟨fun h => a.run (b.run h)⟩
theorem go {p q : Prop} [a : Stps1 p q] (h : q) : p := a.run h
class Slot (σ : L2.St) (i : Nat) (v : outParam V) : Prop where
  get : σ[i]? = some (some v)
instance {v : V} {r : L2.St} : Slot (some v :: r) 0 v := ⟨rfl⟩
instance {x : Option V} {v : V} {r : L2.St} {i : Nat} [a : Slot r i v] : Slot (x :: r) (i + 1) v := ⟨a.get⟩
class Put (σ : L2.St) (i : Nat) (v : Option V) (σ' : outParam L2.St) : Prop where
  eq : σ.set i v = σ'
instance {x v : Option V} {r : L2.St} : Put (x :: r) 0 v (v :: r) := ⟨rfl⟩
instance {x v : Option V} {r r' : L2.St} {i : Nat} [a : Put r i v r'] : Put (x :: r) (i + 1) v (x :: r') := ⟨by rw [List.set_cons_succ, a.eq]⟩
instance {σ σ0 σ' : L2.St} {j : Nat} {w : Option V} {i : Nat} {v : Option V} [a : Put σ j w σ0] [b : Put σ0 i v σ'] : Put (List.set σ j w) i v σ' := ⟨by rw [a.eq, b.eq]⟩
instance {σ σ0 : L2.St} {j : Nat} {w : Option V} {i : Nat} {v : V} [a : Put σ j w σ0] [b : Slot σ0 i v] : Slot (List.set σ j w) i v := ⟨by rw [a.eq, b.get]⟩
class Wip (σ : L2.St) (vs : List Nat) (σ' : outParam L2.St) : Prop where
  eq : wipe σ vs = σ'
instance {σ : L2.St} : Wip σ [] σ := ⟨rfl⟩
instance {σ σ' σ'' : L2.St} {i : Nat} {vs : List Nat} [b : Wip σ vs σ'] [a : Put σ' i none σ''] : Wip σ (i :: vs) σ'' := ⟨by
  show (wipe σ vs).set i none = σ''
  rw [b.eq, a.eq]⟩
instance {σ σ0 σ' : L2.St} {vs : List Nat} {i : Nat} {v : Option V} [a : Wip σ vs σ0] [b : Put σ0 i v σ'] : Put (wipe σ vs) i v σ' := ⟨by rw [a.eq, b.eq]⟩
/-- a new list, a new tuple -/
def newL (xs : List V) (H : Hp) (Q : VK) : Prop := xs.length ≤ sizeLine ∧ ∀ p, H p = none → Q (.ref p) (upd H p (.lst xs))
def newT (xs : List V) (H : Hp) (Q : VK) : Prop := xs.length ≤ sizeLine ∧ ∀ p, H p = none → Q (.ref p) (upd H p (.tup xs))
def newR (a b : Int) (H : Hp) (Q : VK) : Prop := RgOk a b ∧ ∀ q, H q = none → Q (.ref q) (upd H q (.lst (rgV a b)))
theorem kL {xs : List V} {H : Hp} {Q : VK} (hn : xs.length ≤ 100000) (h : ∀ p H', H p = none → Same H H' → H' p = some (.lst xs) → Q (.ref p) H') : newL xs H Q := ⟨sz hn, fun p np => h p _ np (same_new np) upd_same⟩
theorem kT {xs : List V} {H : Hp} {Q : VK} (hn : xs.length ≤ 100000) (h : ∀ p H', H p = none → Same H H' → H' p = some (.tup xs) → Q (.ref p) H') : newT xs H Q := ⟨sz hn, fun p np => h p _ np (same_new np) upd_same⟩
theorem kR {a b : Int} {H : Hp} {Q : VK} (hr : RgOk a b) (h : ∀ p H', H p = none → Same H H' → H' p = some (.lst (rgV a b)) → Q (.ref p) H') : newR a b H Q := ⟨hr, fun q nq => h q _ nq (same_new nq) upd_same⟩
section
variable {K : PySem.W.Frag} {σ σ' : L2.St} {H : Hp} {D : Ends} {Q : VK} {ta tb tc te to ti : TE} {t u : TT} {s1 s2 : TS} {QT : Bool → Hp → Prop} {QA : List V → Hp → Prop} {tr : TA} {QS : L2.St → Hp → Prop} {nx bk ct : L2.St → Hp → Prop} {rt : VK} {g : TG} {gs : TGs} {i j : Nat} {v w : V} {a b : Int} {wi : TI} {tS : TS}
instance : Stp (tSeq s1 s2 ⟨nx, rt, bk, ct⟩ σ H) (s1 ⟨s2 ⟨nx, rt, bk, ct⟩, rt, bk, ct⟩ σ H) := ⟨k_seq⟩
instance : Stp (tNext ⟨nx, rt, bk, ct⟩ σ H) (nx σ H) := ⟨k_next⟩
instance : Stp (tCont ⟨nx, rt, bk, ct⟩ σ H) (ct σ H) := ⟨k_cont⟩
instance : Stp (tBreak ⟨nx, rt, bk, ct⟩ σ H) (bk σ H) := ⟨k_brk⟩
instance : Stp (tAsg te g ⟨nx, rt, bk, ct⟩ σ H) (te σ H fun x H1 => g x σ H1 nx) := ⟨k_asg⟩
instance : Stp (tDrop te ⟨nx, rt, bk, ct⟩ σ H) (te σ H fun _ H1 => nx σ H1) := ⟨k_drop⟩
instance : Stp (tRet te ⟨nx, rt, bk, ct⟩ σ H) (te σ H rt) := ⟨k_ret⟩
instance : Stp (tRetN ⟨nx, rt, bk, ct⟩ σ H) (rt .non H) := ⟨k_retN⟩
instance {f : Int → Int → Int} [e : Slot σ i (.int a)] : Stp (tAug i te (ipI f) ⟨nx, rt, bk, ct⟩ σ H) (te σ H fun y H1 => ipI f (.int a) y H1 fun z H2 => gName i z σ H2 nx) := ⟨fun h => k_aug e.get h⟩
instance {f : Int → Int → Int} : Stp (ipI f (.int a) (.int b) H Q) (Q (.int (f a b)) H) := ⟨k_ipI⟩
instance : Stp (xAugL K to ti te ⟨nx, rt, bk, ct⟩ σ H) (to σ H fun o H1 => ti σ H1 fun i H2 => rGetL K o i H2 fun x H3 => te σ H3 fun y H4 => ipI (fun i j => i + j) x y H4 fun z H5 => rSetL o i z H5 fun H6 => nx σ H6) := ⟨k_augL⟩
instance : Stp (tIfS t s1 s2 D σ H) (t σ H fun b H1 => if b = true then s1 D σ H1 else s2 D σ H1) := ⟨k_if⟩
instance [e : Slot σ i v] : Stp (tVar i σ H Q) (Q v H) := ⟨fun h => k_var e.get h⟩
instance : Stp (tC v σ H Q) (Q v H) := ⟨k_c⟩
instance {r : R2} : Stp (tOp r ta tb σ H Q) (ta σ H fun x H1 => tb σ H1 fun y H2 => r x y H2 Q) := ⟨k_op⟩
instance {r : V → Hp → VK → Prop} : Stp (tUn r ta σ H Q) (ta σ H fun x H1 => r x H1 Q) := ⟨k_un⟩
instance : Stp (xAdd (.int a) (.int b) H Q) (Q (.int (a + b)) H) := ⟨k_add⟩
instance : Stp (xSub (.int a) (.int b) H Q) (Q (.int (a - b)) H) := ⟨k_sub⟩
instance : Stp (xLt (.int a) (.int b) H Q) (Q (.bl (decide (a < b))) H) := ⟨k_lt⟩
instance : Stp (xLe (.int a) (.int b) H Q) (Q (.bl (decide (a ≤ b))) H) := ⟨k_le⟩
instance : Stp (xGt (.int a) (.int b) H Q) (Q (.bl (decide (b < a))) H) := ⟨k_gt⟩
instance : Stp (xGe (.int a) (.int b) H Q) (Q (.bl (decide (b ≤ a))) H) := ⟨k_ge⟩
instance : Stp (xNeg (.int a) H Q) (Q (.int (-a)) H) := ⟨k_neg⟩
instance : Stp (rEq (.int a) (.int b) H Q) (Q (.bl (decide (a = b))) H) := ⟨k_eqI⟩
instance : Stp (rNe (.int a) (.int b) H Q) (Q (.bl (!decide (a = b))) H) := ⟨k_neI⟩
instance {a b : Bool} : Stp (rEq (.bl a) (.bl b) H Q) (Q (.bl (decide (a = b))) H) := ⟨k_eqB⟩
instance {a b : Bool} : Stp (rNe (.bl a) (.bl b) H Q) (Q (.bl (!decide (a = b))) H) := ⟨k_neB⟩
theorem k_eqNN (h : Q (.bl true) H) : rEq .non .non H Q := ⟨rfl, h⟩
theorem k_isN0 (h : Q (.bl true) H) : xIsN .non .non H Q := ⟨rfl, h⟩
theorem k_isNr {p : Addr} (h : Q (.bl false) H) : xIsN (.ref p) .non H Q := ⟨rfl, by rw [decide_eq_false (by intro z; cases z)]; exact h⟩
theorem k_isNi (h : Q (.bl false) H) : xIsN (.int a) .non H Q := ⟨rfl, by rw [decide_eq_false (by intro z; cases z)]; exact h⟩
theorem k_notN0 (h : Q (.bl false) H) : xNotN .non .non H Q := ⟨rfl, h⟩
theorem k_notNr {p : Addr} (h : Q (.bl true) H) : xNotN (.ref p) .non H Q := ⟨rfl, by rw [decide_eq_false (by intro z; cases z)]; exact h⟩
theorem k_notNi (h : Q (.bl true) H) : xNotN (.int a) .non H Q := ⟨rfl, by rw [decide_eq_false (by intro z; cases z)]; exact h⟩
instance : Stp (xIsN .non .non H Q) (Q (.bl true) H) := ⟨k_isN0⟩
instance {p : Addr} : Stp (xIsN (.ref p) .non H Q) (Q (.bl false) H) := ⟨k_isNr⟩
instance : Stp (xIsN (.int a) .non H Q) (Q (.bl false) H) := ⟨k_isNi⟩
instance : Stp (xNotN .non .non H Q) (Q (.bl false) H) := ⟨k_notN0⟩
instance {p : Addr} : Stp (xNotN (.ref p) .non H Q) (Q (.bl true) H) := ⟨k_notNr⟩
instance : Stp (xNotN (.int a) .non H Q) (Q (.bl true) H) := ⟨k_notNi⟩
instance : Stp (tTest te σ H QT) (te σ H fun x H1 => ∃ k, x = .bl k ∧ QT k H1) := ⟨k_test⟩
instance : Stp (tB te σ H QT) (te σ H fun x H1 => ∃ k, x = .bl k ∧ QT k H1) := ⟨k_B⟩
instance {b : Bool} {R : Bool → Prop} : Stp (∃ k, V.bl b = .bl k ∧ R k) (R b) := ⟨k_bl⟩
instance {R : Int → Prop} : Stp (∃ j, V.int a = .int j ∧ R j) (R a) := ⟨k_int⟩
instance {R : Int → Int → Prop} : Stp (∃ i' j', V.int a = .int i' ∧ V.int b = .int j' ∧ R i' j') (R a b) := ⟨k_int2⟩
instance : Stp (tAnd t u σ H QT) (t σ H fun c H1 => if c = true then u σ H1 QT else QT false H1) := ⟨k_and⟩
instance : Stp (tOr t u σ H QT) (t σ H fun c H1 => if c = true then QT true H1 else u σ H1 QT) := ⟨k_or⟩
instance : Stp (tNot t σ H QT) (t σ H fun c H1 => QT (!c) H1) := ⟨k_not⟩
instance : Stp (tNotV ta σ H Q) (ta σ H fun x H1 => ∃ c, x = .bl c ∧ Q (.bl (!c)) H1) := ⟨k_notV⟩
instance : Stp (tAndV ta tb σ H Q) (ta σ H fun x H1 => ∃ c, x = .bl c ∧ if c = true then tb σ H1 Q else Q (.bl false) H1) := ⟨k_andV⟩
instance : Stp (tOrV ta tb σ H Q) (ta σ H fun x H1 => ∃ c, x = .bl c ∧ if c = true then Q (.bl true) H1 else tb σ H1 Q) := ⟨k_orV⟩
instance {r : List V → Hp → VK → Prop} : Stp (tCB r tr σ H Q) (tr σ H fun vs H1 => r vs H1 Q) := ⟨k_cb⟩
instance : Stp (tNil σ H QA) (QA [] H) := ⟨k_nil⟩
instance : Stp (tCons ta tr σ H QA) (ta σ H fun x H1 => tr σ H1 fun xs H2 => QA (x :: xs) H2) := ⟨k_cons⟩
instance {sp : Sp} {E : XK} : Stp (tCall sp [] E tr σ H Q) (tr σ H fun vs H1 => sp vs H1 Q E) := ⟨fun h => k_call (by simpa only [List.append_nil] using h)⟩
instance : Stp (tLst tr σ H Q) (tr σ H fun xs H1 => newL xs H1 Q) := ⟨k_lst⟩
instance : Stp (tTup tr σ H Q) (tr σ H fun xs H1 => newT xs H1 Q) := ⟨k_tup⟩
instance {r : List V} : Stp (gCons g gs (v :: r) σ H QS) (g v σ H fun σ' H' => gs r σ' H' QS) := ⟨k_gcons⟩
instance : Stp (gNil [] σ H QS) (QS σ H) := ⟨k_gnil⟩
instance [e : Put σ i (some v) σ'] : Stp (gName i v σ H QS) (QS σ' H) := ⟨fun h => k_gname (by rw [e.eq]; exact h)⟩
instance {ts : TSet} : Stp (gSub to ti ts v σ H QS) (to σ H fun o H1 => ti σ H1 fun i H2 => ts o i v H2 fun H3 => QS σ H3) := ⟨k_gsub⟩
instance : Stp (rMax2 [.int a, .int b] H Q) (Q (.int (if b > a then b else a)) H) := ⟨k_max2⟩
instance : Stp (rMin2 [.int a, .int b] H Q) (Q (.int (if b < a then b else a)) H) := ⟨k_min2⟩
instance {T : String} {r : V → List V → Hp → VK → Prop} : Stp (tBM K T r ta tr σ H Q) (ta σ H fun x H1 => tyV K T x H1 ∧ tr σ H1 fun xs H2 => r x xs H2 Q) := ⟨k_bm⟩
instance {T : String} {r : V → List V → Hp → VK → Prop} : Stp (tBM0 K T r ta σ H Q) (ta σ H fun x H1 => tyV K T x H1 ∧ r x [] H1 Q) := ⟨k_bm0⟩
instance {A B : Prop} {i : Decidable (true = true)} : Stp (@ite Prop (true = true) i A B) A := ⟨fun h => by rw [if_pos rfl]; exact h⟩
instance {A B : Prop} {i : Decidable (false = true)} : Stp (@ite Prop (false = true) i A B) B := ⟨fun h => by rw [if_neg (by simp)]; exact h⟩
instance {A B : Prop} {i : Decidable ((!true) = true)} : Stp (@ite Prop ((!true) = true) i A B) B := ⟨fun h => by rw [if_neg (by simp)]; exact h⟩
instance {A B : Prop} {i : Decidable ((!false) = true)} : Stp (@ite Prop ((!false) = true) i A B) A := ⟨fun h => by rw [if_pos (by simp)]; exact h⟩
instance : Stp (tFor wi g tS ⟨nx, rt, bk, ct⟩ σ H) (wi σ H fun J H1 => ∃ W : Nat → Nat → L2.St → Hp → Prop, (∃ m, W 0 m σ H1) ∧ ∀ i m σ H, W i m σ H →
  (J.stop i H ∧ nx σ H) ∨ (J.go i H ∧ ∃ N : L2.St → Hp → Prop, (∀ σ' H', N σ' H' → ∃ m', m' < m ∧ W (i + 1) m' σ' H') ∧ ∀ x H', J.yld i H x H' → g x σ H' fun σ2 H2 => tS ⟨N, rt, nx, N⟩ σ2 H2)) := ⟨k_for⟩
instance {R : It → Hp → Prop} : Stp (iList K te σ H R) (te σ H fun x H1 => ∃ a, x = .ref a ∧ (∃ xs, SqL K H1 a xs) ∧ R (Itl K a) H1) := ⟨k_iList⟩
instance {R : It → Hp → Prop} : Stp (iTup K te σ H R) (te σ H fun x H1 => ∃ a, x = .ref a ∧ (∃ xs, SqT K H1 a xs) ∧ R (Itt K a) H1) := ⟨k_iTup⟩
instance {R : It → Hp → Prop} : Stp (iZip K tr σ H R) (tr σ H fun vs H1 => ∃ a b xs ys, vs = [.ref a, .ref b] ∧ SqL K H1 a xs ∧ SqL K H1 b ys ∧ R (Itz K a b) H1) := ⟨k_iZip⟩
instance {R : It → Hp → Prop} : Stp (iEnum K tr σ H R) (tr σ H fun vs H1 => ∃ a xs, vs = [.ref a] ∧ SqL K H1 a xs ∧ R (Ite K a) H1) := ⟨k_iEnum⟩
instance {R : It → Hp → Prop} : Stp (iRng1 tr σ H R) (tr σ H fun vs H1 => ∃ j : Int, vs = [.int j] ∧ -(2 ^ 62) ≤ j ∧ j < 2 ^ 62 ∧ R (Itr 0 j.toNat) H1) := ⟨k_iRng1⟩
instance {R : It → Hp → Prop} : Stp (iRng2 tr σ H R) (tr σ H fun vs H1 => ∃ i j : Int, vs = [.int i, .int j] ∧ (-(2 ^ 62) ≤ i ∧ i < 2 ^ 62 ∧ -(2 ^ 62) ≤ j ∧ j < 2 ^ 62) ∧ R (Itr i (j - i).toNat) H1) := ⟨k_iRng2⟩
instance {vs : List Nat} : Stp (tLc wi g t te vs σ H Q) (wi σ H fun J H1 => ∀ D, H1 D = none → ∃ W : Nat → Nat → Hp → Prop, (∃ m, W 0 m (upd H1 D (.lst []))) ∧ ∀ i m H, W i m H →
  (J.stop i H ∧ Q (.ref D) H) ∨ (J.go i H ∧ ∃ Nx : Hp → Prop, (∀ H', Nx H' → ∃ m', m' < m ∧ W (i + 1) m' H') ∧ ∀ x H', J.yld i H x H' → g x (wipe σ vs) H' fun σ2 H2 => wipe σ2 vs = wipe σ vs ∧ t σ2 H2 fun b H3 =>
    if b = true then te σ2 H3 fun y H4 => ∃ acc, H4 D = some (.lst acc) ∧ acc.length < sizeLine ∧ Nx (upd H4 D (.lst (acc ++ [y]))) else Nx H3)) := ⟨k_lc⟩
instance : Stp (tYes σ H QT) (QT true H) := ⟨k_yes⟩
instance {r : V → Option Int → Option Int → Hp → VK → Prop} {tl th : TO} : Stp (tSl r te tl th σ H Q) (te σ H fun x H1 => tl σ H1 fun l H2 => th σ H2 fun u H3 => r x l u H3 Q) := ⟨k_sl⟩
instance {QO : Option Int → Hp → Prop} : Stp (tNoPart σ H QO) (QO none H) := ⟨k_nopart⟩
instance {QO : Option Int → Hp → Prop} : Stp (tPart te σ H QO) (te σ H fun x H1 => ∃ i, x = .int i ∧ QO (some i) H1) := ⟨k_part⟩
instance {tg : L2.St → Hp → (Int → Int → Hp → Prop) → Prop} : Stp (tLstRg tg σ H Q) (tg σ H fun a b H1 => newR a b H1 Q) := ⟨k_listRg⟩
instance {QR : Int → Int → Hp → Prop} : Stp (tRg1 ta σ H QR) (ta σ H fun x H1 => ∃ n, x = .int n ∧ QR 0 n H1) := ⟨k_rg1⟩
instance {QR : Int → Int → Hp → Prop} : Stp (tRg2 ta tb σ H QR) (ta σ H fun x H1 => tb σ H1 fun y H2 => ∃ i j, x = .int i ∧ y = .int j ∧ QR i j H2) := ⟨k_rg2⟩
instance : Stp (rIsi K [.int a, .ty "int"] H Q) (Q (.bl true) H) := ⟨k_isiI⟩
instance : Stp (rIsi K [.int a, .ty "bool"] H Q) (Q (.bl false) H) := ⟨k_isiB⟩
instance : Stp (rIsi K [.int a, .ty "list"] H Q) (Q (.bl false) H) := ⟨k_isiLI⟩
instance {b : Bool} : Stp (rIntOf [.bl b] H Q) (Q (.int (if b then 1 else 0)) H) := ⟨k_intB⟩
theorem k_chain {r r' : R2} (h : ta σ H fun x H1 => tb σ H1 fun y H2 => r x y H2 fun z H3 => ∃ k, z = .bl k ∧ if k = true then tc σ H3 fun z H4 => r' y z H4 Q else Q (.bl false) H3) : tChain r r' ta tb tc σ H Q := h
instance {r r' : R2} : Stp (tChain r r' ta tb tc σ H Q) (ta σ H fun x H1 => tb σ H1 fun y H2 => r x y H2 fun z H3 => ∃ k, z = .bl k ∧ if k = true then tc σ H3 fun z H4 => r' y z H4 Q else Q (.bl false) H3) := ⟨k_chain⟩
theorem k_ifE (h : t σ H fun c H1 => if c = true then ta σ H1 Q else tb σ H1 Q) : tIf t ta tb σ H Q := h
instance : Stp (tIf t ta tb σ H Q) (t σ H fun c H1 => if c = true then ta σ H1 Q else tb σ H1 Q) := ⟨k_ifE⟩
def par2 (i j : Nat) (vs : List V) (σ : L2.St) (H : Hp) (nx : L2.St → Hp → Prop) : Prop := ∃ v w, vs = [v, w] ∧ nx ((σ.set i (some v)).set j (some w)) H
instance : Stp (tPar i j tr ⟨nx, rt, bk, ct⟩ σ H) (tr σ H fun vs H1 => par2 i j vs σ H1 nx) := ⟨fun h => h⟩
instance {σ'' : L2.St} [e : Put σ i (some v) σ'] [e2 : Put σ' j (some w) σ''] : Stp (par2 i j [v, w] σ H nx) (nx σ'' H) := ⟨fun h => ⟨v, w, rfl, by rw [e.eq, e2.eq]; exact h⟩⟩
end
/-! ### bits -/
def xShl : R2 := rI CPow fun i j => .int (i * 2 ^ j.toNat)
def xAnd : R2 := rI0 fun i j => .int (Builtin.bitAnd i j)
theorem k_shl {H : Hp} {Q : VK} {i j : Int} (hc : CPow i j) (h : Q (.int (i * 2 ^ j.toNat)) H) : xShl (.int i) (.int j) H Q := ⟨i, j, rfl, rfl, hc, h⟩
instance {H : Hp} {Q : VK} {i j : Int} : Stp (xAnd (.int i) (.int j) H Q) (Q (.int (Builtin.bitAnd i j)) H) := ⟨fun h => ⟨i, j, rfl, rfl, h⟩⟩
/-! ### list.count of flat values -/
def cntV (y : V) (ys : List V) : Nat := ys.countP fun z => eqV z y
def rCntV (K : PySem.W.Frag) : V → List V → Hp → VK → Prop := fun x xs H Q => ∃ (a : Addr) (ys : List V) (y : V), x = V.ref a ∧ xs = [y] ∧ SqL K H a ys ∧ flatV y = true ∧ ys.all flatV = true ∧ Q (.int (cntV y ys : Nat)) H
theorem cntV_eq {y : V} : ∀ {ys : List V} {its : List Value}, Vals ys its → ys.all flatV = true → its.countP (eqU y) = cntV y ys
  | _, _, .nil, _ => rfl
  | a :: as, _ :: _, .cons r rs, f => by
    have f1 : flatV a = true ∧ as.all flatV = true := by simpa using f
    unfold cntV
    rw [List.countP_cons, List.countP_cons, eqU_of r f1.1, cntV_eq rs f1.2]
    rfl
theorem mt_lcountV {X : Cx} : MtR X "list.count" (rCntV X.K) := by
  intro pins s σ H x xs v us Q I rx rxs h
  obtain ⟨a, ys, y, rfl, rfl, hs, fy, fys, q⟩ := h
  cases rx
  cases rxs with
  | cons ry rt =>
    rename_i uy ut
    cases rt
    obtain ⟨its, rv, ⟨⟨cls, dd, data, sl⟩, n, ho, hc, hdn, hd⟩, hlen⟩ := I.list hs
    simp only at hc hd
    subst hc hd
    refine call_meets PySem.F.slot_list_count ⟨_, ho, rfl⟩ PySem.F.entry_list_count (PySem.F.args_list_count_2 _ _)
      (SeqAt.list_countAt a its.toArray n dd sl uy (eqU y)) ⟨ho, fun u' hu' => mem_eqAt ry fy rv fys u' (by simpa using hu'), ?_⟩
    have ec : its.toArray.toList.countP (eqU y) = cntV y ys := cntV_eq rv fys
    refine ⟨.int (cntV y ys : Nat), H, I.tok _, ⟨s.toks, ?_⟩, q⟩
    show Value.int ((its.toArray.toList.countP (eqU y) : Nat) : Int) s.toks = Value.int ((cntV y ys : Nat) : Int) s.toks
    rw [ec]
section
variable {K : PySem.W.Frag} {H : Hp} {Q : VK}
theorem k_catN {p q : Addr} {xs ys : List V} (hp : H p = some (.lst xs)) (hq : H q = some (.lst ys)) (hz : xs.length + ys.length ≤ 100000) (h : ∀ l H', H l = none → Same H H' → H' l = some (.lst (xs ++ ys)) → Q (.ref l) H') : rCat (.ref p) (.ref q) H Q := k_cat hp hq hz fun l nl => h l _ nl (same_new nl) upd_same
theorem k_cntV {p : Addr} {ys : List V} {y : V} (hs : SqL K H p ys) (fy : flatV y = true) (fys : ys.all flatV = true) (h : Q (.int (cntV y ys : Nat)) H) : rCntV K (.ref p) [y] H Q := ⟨p, ys, y, rfl, rfl, hs, fy, fys, h⟩
theorem k_indexV {p : Addr} {ys : List V} {y z : V} {j : Nat} (hs : SqL K H p ys) (fy : flatV y = true) (fys : ys.all flatV = true) (hj : ys[j]? = some z) (hz : eqV z y = true) (hn : ∀ (m : Nat) (z' : V), m < j → ys[m]? = some z' → eqV z' y = false) (h : Q (.int (j : Nat)) H) : rIndex K (.ref p) [y] H Q := ⟨p, ys, y, j, z, rfl, rfl, hs, fy, fys, hj, hz, hn, h⟩
theorem k_sortedN {a : Addr} {ns : List Int} (hs : SqL K H a (ns.map V.int)) (h : ∀ (ns' : List Int) (p : Addr) H', ns'.Perm ns → ns'.Pairwise (· ≤ ·) → H p = none → Same H H' → H' p = some (.lst (ns'.map V.int)) → Q (.ref p) H') : rSortedI K [.ref a] H Q := k_sortedI hs fun ns' p h1 h2 h3 => h ns' p _ h1 h2 h3 (same_new h3) upd_same
end
/-! ### facts of older heaps -/
theorem hid_back {S : List Addr} {X Y : Hp} (h : Same X (hid S Y)) : Same X Y := h.trans (hid_same S Y)
theorem at_same {X Y : Hp} {p : Addr} {o : HO} (h : X p = some o) (s : Same X Y) : Y p = some o := s _ _ h
theorem sl_at {K : PySem.W.Frag} {X Y : Hp} {p : Addr} {xs : List V} (h : X p = some (.lst xs)) (s : Same X Y) : SqL K Y p xs := sl (s _ _ h)
theorem st_at {K : PySem.W.Frag} {X Y : Hp} {p : Addr} {xs : List V} (h : X p = some (.tup xs)) (s : Same X Y) : SqT K Y p xs := stp (s _ _ h)
theorem dpI_at {K : PySem.W.Frag} {X Y : Hp} {p : Addr} {ns : List Int} (h : X p = some (.lst (ns.map V.int))) (s : Same X Y) : Dp K Y (.ref p) (dInts ns) := dp_of_ints (sl (s _ _ h))
theorem dpP_at {K : PySem.W.Frag} {X Y : Hp} {p : Addr} {a b : Int} (h : X p = some (.tup [.int a, .int b])) (s : Same X Y) : Dp K Y (.ref p) (dPair (a, b)) := dp_of_pair (stp (s _ _ h))
theorem hid_free {S : List Addr} {H : Hp} (f : ∀ a ∈ S, H a = none) : Same H (hid S H) := fun b o hb => by
  rw [hid_ne fun z => by rw [f b z] at hb; cases hb]; exact hb
theorem hid_free1 {p : Addr} {H : Hp} (f : H p = none) : Same H (hid [p] H) := hid_free (free1 f)
theorem cut_to (xs : List V) (k : Nat) : cutV xs none (some (k : Int)) = xs.take k := by
  unfold cutV
  rw [HT.sIx_none, HT.sIx_nat, List.drop_zero, Nat.sub_zero]
  by_cases h : k ≤ xs.length
  · rw [Nat.min_eq_left h]
  · rw [Nat.min_eq_right (by omega), List.take_of_length_le (by simp), List.take_of_length_le (by omega)]
theorem cut_from (xs : List V) (k : Nat) : cutV xs (some (k : Int)) none = xs.drop k := by
  unfold cutV
  rw [HT.sIx_none, HT.sIx_nat]
  by_cases h : k ≤ xs.length
  · rw [Nat.min_eq_left h]
    exact List.take_of_length_le (by simp)
  · rw [Nat.min_eq_right (by omega), List.drop_of_length_le (Nat.le_refl _), List.drop_of_length_le (by omega), List.take_nil]
theorem dpa_take {K : PySem.W.Frag} {H : Hp} : ∀ {vs : List V} {ds : List PyData} (n : Nat), DpAll K H vs ds → DpAll K H (vs.take n) (ds.take n)
  | _, _, 0, _ => by simp only [List.take_zero]; exact .nil
  | _, _, n + 1, .nil => by simp only [List.take_nil]; exact .nil
  | _, _, n + 1, .cons h r => .cons h (dpa_take n r)
theorem dpa_drop {K : PySem.W.Frag} {H : Hp} : ∀ {vs : List V} {ds : List PyData} (n : Nat), DpAll K H vs ds → DpAll K H (vs.drop n) (ds.drop n)
  | _, _, 0, h => h
  | _, _, n + 1, .nil => by simp only [List.drop_nil]; exact .nil
  | _, _, n + 1, .cons _ r => dpa_drop n r
theorem Le.at {H H' : Hp} {pu p : Addr} {k : Int} {o : HO} (L : Le H pu k) (np : H p = none) (e : H' p = some o) : hid [pu] H' p = some o := by rw [hid_ne (L.fresh np)]; exact e
theorem hat {H : Hp} {pu p : Addr} {o : HO} (np : p ∉ [pu]) (e : H p = some o) : hid [pu] H p = some o := by rw [hid_ne np]; exact e
theorem kLp {xs : List V} {H : Hp} {Q : VK} {pu : Addr} {k : Int} (L : Le H pu k) (hn : xs.length ≤ 100000) (h : ∀ p H', H p = none → Same H H' → hid [pu] H' p = some (.lst xs) → Q (.ref p) H') : newL xs H Q := ⟨sz hn, fun p np => h p _ np (same_new np) (L.at np upd_same)⟩
theorem kTp {xs : List V} {H : Hp} {Q : VK} {pu : Addr} {k : Int} (L : Le H pu k) (hn : xs.length ≤ 100000) (h : ∀ p H', H p = none → Same H H' → hid [pu] H' p = some (.tup xs) → Q (.ref p) H') : newT xs H Q := ⟨sz hn, fun p np => h p _ np (same_new np) (L.at np upd_same)⟩
theorem sh_l2 {n : Nat} {c d : PyData} (h1 : Sh n c) (h2 : Sh n d) : Sh (n + 1) (.list [c, d]) := sh_list fun x hx => by
  rcases List.mem_cons.mp hx with rfl | hx
  · exact h1
  · rcases List.mem_cons.mp hx with rfl | hx
    · exact h2
    · cases hx
section
variable {K : PySem.W.Frag} {σ : L2.St} {H1 : Hp} {Q : VK} {g : TG} {tt : TT} {te : TE} {vs : List Nat}
/-- over a range, new objects may be made -/
theorem lc_growR {QD : Addr → Hp → Prop} {lo : Int} {n : Nat} (hz : n ≤ 50000) (f : Nat → Option V)
    (step : ∀ (i : Nat) H', i < n → Same H1 H' → ∀ (R : V → Hp → Prop) (R0 : Hp → Prop), (∀ y H'', f i = some y → Same H' H'' → R y H'') → (∀ H'', f i = none → Same H' H'' → R0 H'') →
      g (.int (lo + (i : Nat))) (wipe σ vs) H' fun σ2 H2 => wipe σ2 vs = wipe σ vs ∧ tt σ2 H2 fun b H3 => if b = true then te σ2 H3 R else R0 H3)
    (h : ∀ D H', H1 D = none → Same H1 H' → H' D = some (.lst ((List.range n).filterMap f)) → QD D H') :
    ∀ D, H1 D = none → ∃ W : Nat → Nat → Hp → Prop, (∃ m, W 0 m (upd H1 D (.lst []))) ∧ ∀ i m H, W i m H →
      ((Itr lo n).stop i H ∧ QD D H) ∨ ((Itr lo n).go i H ∧ ∃ Nx : Hp → Prop, (∀ H', Nx H' → ∃ m', m' < m ∧ W (i + 1) m' H') ∧ ∀ x H', (Itr lo n).yld i H x H' → g x (wipe σ vs) H' fun σ2 H2 => wipe σ2 vs = wipe σ vs ∧ tt σ2 H2 fun b H3 =>
        if b = true then te σ2 H3 fun y H4 => ∃ acc, H4 D = some (.lst acc) ∧ acc.length < sizeLine ∧ Nx (upd H4 D (.lst (acc ++ [y]))) else Nx H3) := by
  refine fun D nD => lc_range (fun i H => Same H1 H ∧ H D = some (.lst (((List.range n).take i).filterMap f))) ⟨same_new nD, by rw [upd_same]; simp⟩ ?_ ?_
  · rintro i H hi ⟨sm, hD⟩
    have tk := take_filterMap (f := f) (range_take hi)
    refine step i H hi sm _ _ (fun y H'' hy s2 => ⟨_, s2 _ _ hD, szl ?_, same_mut (sm.trans s2) nD, ?_⟩) (fun H'' hn s2 => ⟨sm.trans s2, ?_⟩)
    · have := List.length_filterMap_le f ((List.range n).take i)
      rw [List.length_take, List.length_range] at this
      omega
    · rw [upd_same, tk, hy]; rfl
    · rw [tk, hn, s2 _ _ hD]; simp
  · rintro H ⟨sm, hD⟩
    rw [List.take_of_length_le (by simp)] at hD
    exact h D H nD sm hD
end
/-- behind an if: what follows is shown once -/
theorem ifjoin {c : Bool} {σ : L2.St} {H : Hp} {s1 s2 : TS} {nx bk ct : L2.St → Hp → Prop} {rt : VK} (G : L2.St → Hp → Prop) (main : ∀ σ H, G σ H → nx σ H) (h : (∀ σ H, G σ H → nx σ H) → if c = true then s1 ⟨nx, rt, bk, ct⟩ σ H else s2 ⟨nx, rt, bk, ct⟩ σ H) : if c = true then s1 ⟨nx, rt, bk, ct⟩ σ H else s2 ⟨nx, rt, bk, ct⟩ σ H := h main
theorem k_repN {H : Hp} {Q : VK} {p : Addr} {xs : List V} {k : Int} (hp : H p = some (.lst xs)) (h0 : 0 ≤ k) (h1 : k < 100000) (h2 : xs.length * k.toNat ≤ 100000) (h : ∀ l H', H l = none → Same H H' → H' l = some (.lst (List.replicate k.toNat xs).flatten) → Q (.ref l) H') : rRep (.ref p) (.int k) H Q := k_rep hp h0 h1 h2 fun l nl => h l _ nl (same_new nl) upd_same
theorem ixN_last {n : Nat} (h : 0 < n) : ixN n (-1) = some (n - 1) := by
  unfold ixN
  rw [if_neg (by omega)]
  split
  · simp; omega
  · omega
theorem ifsjoin {t : TT} {σ : L2.St} {H : Hp} {s1 s2 : TS} {nx bk ct : L2.St → Hp → Prop} {rt : VK} (G : L2.St → Hp → Prop) (main : ∀ σ H, G σ H → nx σ H) (h : (∀ σ H, G σ H → nx σ H) → tIfS t s1 s2 ⟨nx, rt, bk, ct⟩ σ H) : tIfS t s1 s2 ⟨nx, rt, bk, ct⟩ σ H := h main
/-- over a list or a tuple -/
def iAny (w1 w2 : TI) : TI := fun σ H R => w1 σ H R ∨ w2 σ H R
theorem pi_any {X : Cx} {tg it : Expr} {w1 w2 : TI} (h1 : PI X tg it w1) (h2 : PI X tg it w2) : PI X tg it (iAny w1 w2) := ⟨fun pins s σ H R I h => by
  rcases h with h | h
  · exact h1.run pins s σ H R I h
  · exact h2.run pins s σ H R I h⟩
theorem k_inT2 {K : PySem.W.Frag} {H : Hp} {Q : VK} {p : Addr} {x a b : Int} (hs : SqT K H p [.int a, .int b]) (h : Q (.bl (decide (x = a ∨ x = b))) H) : rIn K false (.int x) (.ref p) H Q :=
  ⟨p, _, rfl, .inr hs, rfl, flat_ints [a, b], by
    rw [if_neg Bool.false_ne_true, show ([V.int a, .int b] : List V) = List.map V.int [a, b] from rfl, inV_ints]
    have e : decide (x ∈ [a, b]) = decide (x = a ∨ x = b) := by simp
    rw [e]; exact h⟩
theorem Pu.at {H H' : Hp} {pu ce p : Addr} {n : Nat} {t : Int} {o : HO} (L : Pu H pu ce n t) (np : H p = none) (e : H' p = some o) : hid [pu, ce] H' p = some o := by rw [hid_ne (L.fresh np)]; exact e
theorem kLq {xs : List V} {H : Hp} {Q : VK} {pu ce : Addr} {n : Nat} {t : Int} (L : Pu H pu ce n t) (hn : xs.length ≤ 100000) (h : ∀ p H', H p = none → Same H H' → hid [pu, ce] H' p = some (.lst xs) → Q (.ref p) H') : newL xs H Q := ⟨sz hn, fun p np => h p _ np (same_new np) (L.at np upd_same)⟩
theorem kTq {xs : List V} {H : Hp} {Q : VK} {pu ce : Addr} {n : Nat} {t : Int} (L : Pu H pu ce n t) (hn : xs.length ≤ 100000) (h : ∀ p H', H p = none → Same H H' → hid [pu, ce] H' p = some (.tup xs) → Q (.ref p) H') : newT xs H Q := ⟨sz hn, fun p np => h p _ np (same_new np) (L.at np upd_same)⟩
end Cm

namespace Cm
open PySem PySem.Spec PyProof.Rows L2

/-! ### how many unlike ints -/
def unl (ns : List Int) : Nat := (PyProof.Rows.firstMet (fun i => ns.getD i 0) ns.length).length
theorem unl_le (ns : List Int) : unl ns ≤ ns.length := PyProof.Rows.firstMet_length_le _ _
def tLenU (K : PySem.W.Frag) (ta : TE) : TE := fun σ H Q => ta σ H fun x H1 => ∃ (l : Addr) (ns : List Int), x = .ref l ∧ SqL K H1 l (ns.map V.int) ∧ ns.length ≤ 4000 ∧ Q (.int (unl ns : Nat)) H1
theorem pe_lenU {X : Cx} {a : Expr} {ta : TE} {p p2 q pos : Pos} (cm : X.calm = true) (gl : Gl X "len") (ml : X.mg "len" = none) (gs : Gl X "set") (ms : X.mg "set" = none) (pa : PE X a ta)
    (se : starEach [a] X.env = (false, eval a X.env) :: starEach [] X.env := by rfl) : PE X (.Call (.Name "len" p) [.Call (.Name "set" p2) [a] [] q] [] pos) (tLenU X.K ta) := by
  constructor
  intro pins s σ H Q I h
  refine Call_ (ld_blt I gl ml boot_len (PyProof.Rows.callWith_builtin1 (PyProof.Rows.args_cons ?_ rfl) rfl rfl))
  refine Call_ (ld_blt I gs ms boot_set (PyProof.Rows.callWith_type1 (PyProof.Rows.args_cons (thn (pa.run pins s σ H _ I h) fun v s1 ⟨x, H1, J, rx, qx⟩ => PyProof.Rows.args_nil ?_) se) se rfl))
  obtain ⟨l, ns, rfl, hq, hl, qx⟩ := qx
  cases rx
  obtain ⟨its, rv, pl, hz⟩ := J.list hq
  have sz1 : its.toArray.size = ns.length := by rw [List.size_toArray, ← rv.length, List.length_map]
  refine call_set_list (J.ok.hd cm) pl.isList (by simpa using RZ.intsAre_vals rv) (by rw [sz1]; unfold scanBound; omega) fun h' tk hS hk => PyProof.Rows.args_nil ?_
  rw [sz1] at hS
  obtain ⟨o, es, ep, t, ho, hex, hd, _, _, _, hf, hn⟩ := hS
  have J2 : Inv X pins σ H1 { s1 with heap := h', toks := tk } := J.kept fun b o e => hk b o (Heap.lt_size e) e
  have hu := unl_le ns
  exact call_len_set ho hex hd hf (by rw [hn]; unfold unl at hu; omega) ⟨.int (unl ns : Nat), H1, J2.tok _, ⟨_, by rw [hn]; rfl⟩, qx⟩

section
variable {K : PySem.W.Frag} {σ : L2.St} {H1 : Hp} {g : TG} {tt : TT} {te : TE} {vs : List Nat}
/-- over a tuple, new objects may be made -/
theorem lc_growT {QD : Addr → Hp → Prop} {α : Type} {a : Addr} {xs : List V} (hs : SqT K H1 a xs) (ps : List α) (hl : xs.length = ps.length) (hz : ps.length ≤ 50000) (f : α → Option V)
    (step : ∀ (i : Nat) x p H', xs[i]? = some x → ps[i]? = some p → Same H1 H' → ∀ (R : V → Hp → Prop) (R0 : Hp → Prop), (∀ y H'', f p = some y → Same H' H'' → R y H'') → (∀ H'', f p = none → Same H' H'' → R0 H'') →
      g x (wipe σ vs) H' fun σ2 H2 => wipe σ2 vs = wipe σ vs ∧ tt σ2 H2 fun b H3 => if b = true then te σ2 H3 R else R0 H3)
    (h : ∀ D H', H1 D = none → Same H1 H' → H' D = some (.lst (ps.filterMap f)) → QD D H') :
    ∃ a', V.ref a = .ref a' ∧ (∃ xs, SqT K H1 a' xs) ∧ ∀ D, H1 D = none → ∃ W : Nat → Nat → Hp → Prop, (∃ m, W 0 m (upd H1 D (.lst []))) ∧ ∀ i m H, W i m H →
      ((Itt K a').stop i H ∧ QD D H) ∨ ((Itt K a').go i H ∧ ∃ Nx : Hp → Prop, (∀ H', Nx H' → ∃ m', m' < m ∧ W (i + 1) m' H') ∧ ∀ x H', (Itt K a').yld i H x H' → g x (wipe σ vs) H' fun σ2 H2 => wipe σ2 vs = wipe σ vs ∧ tt σ2 H2 fun b H3 =>
        if b = true then te σ2 H3 fun y H4 => ∃ acc, H4 D = some (.lst acc) ∧ acc.length < sizeLine ∧ Nx (upd H4 D (.lst (acc ++ [y]))) else Nx H3) := by
  refine ⟨a, rfl, ⟨xs, hs⟩, fun D nD => lc_tup (xs := xs) (fun i H => Same H1 H ∧ H D = some (.lst ((ps.take i).filterMap f))) ⟨same_new nD, by rw [upd_same]; simp⟩ (fun i H _ e => same_seqT e.1 hs) ?_ ?_⟩
  · rintro i x H hx ⟨sm, hD⟩
    have hi : i < xs.length := (List.getElem?_eq_some_iff.mp hx).1
    obtain ⟨p, hp⟩ : ∃ p, ps[i]? = some p := ⟨ps[i]'(by omega), List.getElem?_eq_getElem (by omega)⟩
    have tk := take_filterMap (f := f) hp
    refine step i x p H hx hp sm _ _ (fun y H'' hy s2 => ⟨_, s2 _ _ hD, szl ?_, same_mut (sm.trans s2) nD, ?_⟩) (fun H'' hn s2 => ⟨sm.trans s2, ?_⟩)
    · have := List.length_filterMap_le f (ps.take i)
      rw [List.length_take] at this
      omega
    · rw [upd_same, tk, hy]; rfl
    · rw [tk, hn, s2 _ _ hD]; simp
  · rintro H ⟨sm, hD⟩
    rw [hl, List.take_length] at hD
    exact h D H nD sm hD
end
theorem k_ixN {K : PySem.W.Frag} {H : Hp} {Q : VK} {p : Addr} {ns : List Int} {i : Nat} {x : Int} (hs : SqL K H p (ns.map V.int)) (hx : ns[i]? = some x) (h : Q (.int x) H) : rIxL K (.ref p) (.int i) H Q := k_ixL hs (atI_nat (by rw [List.getElem?_map, hx]; rfl)) h
theorem fm_map {α : Type} (f : α → V) (l : List α) : l.filterMap (fun x => some (f x)) = l.map f := by
  rw [show (fun x => some (f x)) = some ∘ f from rfl, List.filterMap_eq_map]

/-- what follows a statement is shown once, and lies out of sight meanwhile -/
theorem seqO {s1 s2 : TS} {σ : L2.St} {H : Hp} {nx bk ct : L2.St → Hp → Prop} {rt : VK} (G : L2.St → Hp → Prop) (main : ∀ σ H, G σ H → s2 ⟨nx, rt, bk, ct⟩ σ H) (h : ∀ nx' : L2.St → Hp → Prop, (∀ σ H, G σ H → nx' σ H) → s1 ⟨nx', rt, bk, ct⟩ σ H) : tSeq s1 s2 ⟨nx, rt, bk, ct⟩ σ H := h _ main
/-- the last statement of a block -/
theorem lastO {s1 : TS} {σ : L2.St} {H : Hp} {nx bk ct : L2.St → Hp → Prop} {rt : VK} (G : L2.St → Hp → Prop) (main : ∀ σ H, G σ H → nx σ H) (h : ∀ nx' : L2.St → Hp → Prop, (∀ σ H, G σ H → nx' σ H) → s1 ⟨nx', rt, bk, ct⟩ σ H) : s1 ⟨nx, rt, bk, ct⟩ σ H := h _ main

/-! ### texts -/
def rStrInt : List V → Hp → VK → Prop := fun xs H Q => ∃ i : Int, xs = [.int i] ∧ i.natAbs.log2 < 1920 ∧ Q (.str (toString i)) H
theorem q_strI {X : Cx} : CallR X (.type "str") rStrInt := call_str_int
def xAddS : R2 := fun x y H Q => ∃ i j, x = .str i ∧ y = .str j ∧ i.length + j.length ≤ sizeLine ∧ Q (.str (i ++ j)) H
def rJoin (K : PySem.W.Frag) : V → List V → Hp → VK → Prop := fun x xs H Q => ∃ a p, ∃ ys : List Str, x = .str a ∧ xs = [.ref p] ∧ (SqL K H p (ys.map V.str) ∨ SqT K H p (ys.map V.str)) ∧ (ys.map (·.length)).sum + ys.length * a.length ≤ 16777216 ∧ Q (.str (Txt.join a ys)) H
/-- the signs of a text -/
abbrev sg (s : Str) : List Nat := TL.tl s
def mkS (l : List Nat) : Str := ⟨l.toArray⟩
theorem sg_mkS (l : List Nat) : sg (mkS l) = l := rfl
theorem mkS_sg (s : Str) : mkS (sg s) = s := TL.ext_tl rfl
theorem mkS_inj {l m : List Nat} : mkS l = mkS m ↔ l = m := ⟨fun h => by have := congrArg sg h; rwa [sg_mkS, sg_mkS] at this, fun h => by rw [h]⟩
/-- the signs of a whole number -/
def nu (i : Int) : List Nat := sg (Str.ofString (toString i))
section
variable {K : PySem.W.Frag} {σ : L2.St} {H : Hp} {Q : VK} {to te : TE}
instance {r : V → List V → Hp → VK → Prop} : Stp (tM1 r to te σ H Q) (to σ H fun x H1 => (∃ a, x = .str a) ∧ te σ H1 fun y H2 => r x [y] H2 Q) := ⟨fun h => h⟩
instance {r : V → List V → Hp → VK → Prop} : Stp (tM0 r to σ H Q) (to σ H fun x H1 => (∃ a, x = .str a) ∧ r x [] H1 Q) := ⟨fun h => h⟩
instance {s : Str} {R : Prop} : Stp ((∃ a, V.str s = .str a) ∧ R) R := ⟨fun h => ⟨⟨s, rfl⟩, h⟩⟩
instance : Stp (tLenU K te σ H Q) (te σ H fun x H1 => ∃ (l : Addr) (ns : List Int), x = .ref l ∧ SqL K H1 l (ns.map V.int) ∧ ns.length ≤ 4000 ∧ Q (.int (unl ns : Nat)) H1) := ⟨fun h => h⟩
theorem k_lenU {l : Addr} {ns : List Int} (hs : SqL K H l (ns.map V.int)) (hl : ns.length ≤ 4000) (h : Q (.int (unl ns : Nat)) H) : ∃ (l' : Addr) (ns : List Int), V.ref l = .ref l' ∧ SqL K H l' (ns.map V.int) ∧ ns.length ≤ 4000 ∧ Q (.int (unl ns : Nat)) H := ⟨l, ns, rfl, hs, hl, h⟩
/-- a number of at most thirty figures -/
def Num30 (i : Int) : Prop := 0 ≤ i ∧ i < 10 ^ 30
theorem log_lt {n : Nat} (h : n < 2 ^ 1900) : n.log2 < 1920 := by
  by_cases c : n = 0
  · subst c; decide
  · have := (Nat.log2_lt c (k := 1900)).mpr h
    omega
theorem k_strI {i : Int} (h0 : i.natAbs < 2 ^ 1900) (h : Q (.str (mkS (nu i))) H) : rStrInt [.int i] H Q := ⟨i, rfl, log_lt h0, by unfold nu at h; rw [mkS_sg] at h; exact h⟩
theorem len_sg (s : Str) : s.length = (sg s).length := TL.len_tl s
theorem k_addS {s t : Str} (hz : (sg s).length + (sg t).length ≤ 100000) (h : Q (.str (mkS (sg s ++ sg t))) H) : xAddS (.str s) (.str t) H Q := ⟨s, t, rfl, rfl, by rw [len_sg, len_sg]; exact sz hz, by
  have e : s ++ t = mkS (sg s ++ sg t) := TL.ext_tl (TL.tl_append s t)
  rw [e]; exact h⟩
theorem k_join {s : Str} {p : Addr} {ys : List Str} (hp : SqL K H p (ys.map V.str)) (hz : (ys.map (·.length)).sum + ys.length * s.length ≤ 16777216) (h : Q (.str (mkS (TL.joinL (sg s) (ys.map sg)))) H) : rJoin K (.str s) [.ref p] H Q :=
  ⟨s, p, ys, rfl, rfl, .inl hp, hz, by
    have e : Txt.join s ys = mkS (TL.joinL (sg s) (ys.map sg)) := TL.ext_tl (by rw [TL.join_eq]; exact TL.tl_join s ys)
    rw [e]; exact h⟩
theorem k_isiS {s : Str} (h : Q (.bl true) H) : rIsi K [.str s, .ty "str"] H Q := k_isi (.base (.str s)) (by decide +kernel) h
end
/-! ### more of texts -/
def g_tokS (mg : Str → Option Value) (x : Str) : Tok := match mg x with
  | some (.str _ t) => t
  | _ => default
theorem tok_mkS {mg : Str → Option Value} {x n : Str} {t : Tok} (h : mg x = some (.str n t)) : mg x = some (.str n (g_tokS mg x)) := by
  unfold g_tokS
  rw [h]
theorem q_isiT {X : Cx} : CallR X (.builtin "isinstance") (rIsiT X.K) := call_isiT
def rLenStr : List V → Hp → VK → Prop := fun xs H Q => ∃ z : Str, xs = [.str z] ∧ z.length ≤ sizeLine ∧ Q (.int z.length) H
theorem q_lenS {X : Cx} : CallR X (.builtin "len") rLenStr := call_len_str
def xInS : R2 := fun x y H Q => ∃ i j, x = .str i ∧ y = .str j ∧ Q (.bl (!(Builtin.Str.occurrences j i 0 j.length 1).isEmpty)) H
def xNotInS : R2 := fun x y H Q => ∃ i j, x = .str i ∧ y = .str j ∧ Q (.bl (!(!(Builtin.Str.occurrences j i 0 j.length 1).isEmpty))) H
def rFind : V → List V → Hp → VK → Prop := fun x xs H Q => ∃ a b, x = .str a ∧ xs = [.str b] ∧ Q (.int (Txt.find a b)) H
def rSplit : V → List V → Hp → VK → Prop := fun x xs H Q => ∃ a b, x = .str a ∧ xs = [.str b] ∧ (b.length == 0) = false ∧ a.length + 2 ≤ sizeLine ∧ rNewStrs (Txt.split a b) H Q
section
variable {K : PySem.W.Frag} {σ : L2.St} {H : Hp} {Q : VK} {te : TE}
instance {R : It → Hp → Prop} : Stp (iStr te σ H R) (te σ H fun v H1 => ∃ x, v = .str x ∧ R (Its x) H1) := ⟨fun h => h⟩
theorem k_lenS {l : List Nat} (hl : l.length ≤ 100000) (h : Q (.int (l.length : Nat)) H) : rLenStr [.str (mkS l)] H Q := ⟨_, rfl, by rw [len_sg, sg_mkS]; exact sz hl, by rw [len_sg, sg_mkS]; exact h⟩
theorem k_notInS {l : List Nat} {c : Nat} (h : Q (.bl (!decide (c ∈ l))) H) : xNotInS (.str ⟨#[c]⟩) (.str (mkS l)) H Q := ⟨_, _, rfl, rfl, by
  rw [StrLaws.found_one]; exact h⟩
theorem k_inS {l : List Nat} {c : Nat} (h : Q (.bl (decide (c ∈ l))) H) : xInS (.str ⟨#[c]⟩) (.str (mkS l)) H Q := ⟨_, _, rfl, rfl, by
  rw [StrLaws.found_one]; exact h⟩
theorem k_split {l : List Nat} {s : Str} {ps : List (List Nat)} (hl : l.length ≤ 99000) (hs : s.length ≠ 0) (hp : Txt.split (mkS l) s = ps.map mkS) (h : ∀ p H', H p = none → Same H H' → H' p = some (.lst (ps.map fun q => V.str (mkS q))) → Q (.ref p) H') : rSplit (.str (mkS l)) [.str s] H Q :=
  ⟨_, _, rfl, rfl, by simpa using hs, by rw [len_sg, sg_mkS]; exact sz (by omega), fun p np => h p _ np (same_new np) (by rw [upd_same, hp, List.map_map]; rfl)⟩
theorem k_ixS {l : List Nat} {i : Nat} {c : Nat} (hl : l.length ≤ 100000) (hc : l[i]? = some c) (h : Q (.str ⟨#[c]⟩) H) : rIxS (.str (mkS l)) (.int i) H Q := ⟨_, _, c, rfl, rfl, by rw [len_sg, sg_mkS]; exact sz hl, atI_nat hc, h⟩
end
theorem split_one {s : Nat} {ps : List (List Nat)} (hs : s < 256) (hne : ps ≠ []) (hp : ∀ p ∈ ps, s ∉ p) : Txt.split (mkS (TL.joinL [s] ps)) ⟨#[s]⟩ = ps.map mkS := by
  have e : mkS (TL.joinL [s] ps) = Txt.join ⟨#[s]⟩ (ps.map mkS) := TL.ext_tl (by
    rw [TL.join_eq, TL.tl_join, List.map_map]
    show TL.joinL [s] ps = TL.joinL [s] (ps.map (TL.tl ∘ mkS))
    rw [show (TL.tl ∘ mkS) = id from rfl, List.map_id])
  rw [e]
  refine TL.split_join (s := s) (S := []) rfl (by simp [hs]) (by simpa using hne) fun p h => ?_
  obtain ⟨q, hq, rfl⟩ := List.mem_map.mp h
  exact hp q hq
/-- rows, each with its end, and what stands behind the last end -/
theorem rows_join (rs : List (List Nat)) (e : Nat) (z : List Nat) : (rs.map fun r => r ++ [e]).flatten ++ z = TL.joinL [e] (rs ++ [z]) := by
  induction rs with
  | nil => rfl
  | cons r t ih =>
    have : TL.joinL [e] (r :: (t ++ [z])) = r ++ ([e] ++ TL.joinL [e] (t ++ [z])) := by
      cases t <;> rfl
    rw [List.cons_append, this, ← ih]
    simp
theorem sg_str (s : String) : sg (Str.ofString s) = s.toList.map Char.toNat := TL.tl_ofString s
theorem nu_nat (n : Nat) : nu (n : Int) = TL.numL n := TL.tl_num n
theorem nu_len {i : Int} (h : 0 ≤ i) {k : Nat} (k0 : 0 < k) (h1 : i < 10 ^ k) : (nu i).length ≤ k := by
  obtain ⟨n, rfl⟩ := Int.eq_ofNat_of_zero_le h
  rw [nu_nat]
  unfold TL.numL
  rw [List.length_map]
  refine (Nat.length_toDigits_le_iff (by decide) k0).mpr ?_
  have : ((n : Nat) : Int) < ((10 ^ k : Nat) : Int) := by rw [Int.natCast_pow]; exact h1
  exact Int.ofNat_lt.mp this
/-- signs behind one another -/
theorem joinL_nil (ps : List (List Nat)) : TL.joinL [] ps = ps.flatten := by
  induction ps with
  | nil => rfl
  | cons p r ih => cases r with
    | nil => simp [TL.joinL]
    | cons q r => show p ++ ([] ++ TL.joinL [] (q :: r)) = _; rw [ih]; simp
theorem joinL_cons (S p : List Nat) (r : List (List Nat)) : TL.joinL S (p :: r) = p ++ (r.map fun q => S ++ q).flatten := by
  induction r generalizing p with
  | nil => simp [TL.joinL]
  | cons q r ih => show p ++ (S ++ TL.joinL S (q :: r)) = _; rw [ih]; simp
theorem sum_le {l : List Nat} {b : Nat} (h : ∀ x ∈ l, x ≤ b) : l.sum ≤ l.length * b := by
  induction l with
  | nil => simp
  | cons x r ih =>
    have h1 := ih fun y hy => h y (List.mem_cons_of_mem _ hy)
    have h2 := h x List.mem_cons_self
    rw [List.sum_cons, List.length_cons, Nat.add_mul]
    omega
theorem flat_le {l : List (List Nat)} {b : Nat} (h : ∀ x ∈ l, x.length ≤ b) : l.flatten.length ≤ l.length * b := by
  rw [List.length_flatten]
  have := sum_le (l := l.map List.length) (b := b) fun x hx => by
    obtain ⟨y, hy, rfl⟩ := List.mem_map.mp hx
    exact h y hy
  rw [List.length_map] at this
  exact this
end Cm

namespace Cm
open PySem PySem.Spec PyProof.Rows L2

/-! ### max(d.values()) -/
def tMaxVals (td : TE) : TE := fun σ H Q => td σ H fun x H1 => ∃ (a : Addr) (kvs : List (Key × V)) (is : List Int), x = V.ref a ∧ H1 a = some (.dK kvs) ∧ kvs.map (·.2) = is.map V.int ∧ is ≠ [] ∧ ∀ m, m ∈ is → (∀ j ∈ is, j ≤ m) → Q (.int m) H1
theorem pe_maxVals {X : Cx} {o : Expr} {p pos apos mpos : Pos} {td : TE} (hc : X.calm = true) (hg : Gl X "max") (hm : X.mg "max" = none) (hd : PE X o td) (hbase : attributeBase o "values" X.env (eval o X.env) = eval o X.env := by rfl) (hline : (apos.endLine == mpos.line) = true := by rfl)
    (hse : starEach [Expr.Call (.Attribute o "values" apos) [] [] mpos] X.env = [(false, eval (Expr.Call (.Attribute o "values" apos) [] [] mpos) X.env)] := by rfl) :
    PE X (.Call (.Name "max" p) [.Call (.Attribute o "values" apos) [] [] mpos] [] pos) (tMaxVals td) := by
  constructor
  intro pins s σ H Q I h
  refine wpAny_Call_Name_kw (ld_blt I hg hm (u := .builtin "max") (by first | rfl | decide +kernel) ?_ (by first | decide +kernel | decide) (by first | decide +kernel | decide))
  rw [hse]
  refine PySem.callWith_builtin1 (wpAny_Call_method0_late hbase hline (thn (hd.run pins s σ H _ I h) ?_))
  rintro v s1 ⟨x, H1, I1, r1, a, kvs, is, rfl, ha, hv, hne, q⟩
  obtain rfl : v = Value.ref a := r1
  obtain ⟨_, hsys, vs, rel, dof⟩ := dk_of I1.hok ha
  obtain ⟨ep, dat⟩ := dof.dictAt
  obtain ⟨ob, es, ho, ex, hdat, hko, hpr, hnd⟩ := id dat
  have lv : vs.length = is.length := by
    have e1 : kvs.length = is.length := by simpa using congrArg List.length hv
    rw [← e1]; exact (KV.length rel).symm
  have l0 : 0 < is.length := List.length_pos_iff.mpr hne
  have vals : ∀ (i : Nat) (v : Value), (∃ k, vs[i]? = some (k, v)) → ∃ t, v = Value.int (is.getD i 0) t := by
    rintro i v ⟨k, hk⟩
    obtain ⟨x, h1, h2⟩ := KV.at' rel hk
    have e1 : (is.map V.int)[i]? = some x := by rw [← hv, List.getElem?_map, h1] <;> rfl
    rw [List.getElem?_map] at e1
    obtain ⟨j, hj, rfl⟩ := Option.map_eq_some_iff.mp e1
    obtain ⟨t, e3⟩ := h2
    exact ⟨t, by rw [e3, List.getD_eq_getElem?_getD, hj] <;> rfl⟩
  refine ⟨"dict", "dict.values", F.plainAttrs_dict, F.slot_dict_values, F.type_dict_values, ⟨ob, ho, ex.1⟩, fun b e => by cases e; exact ⟨ob, ho, ex.2.1⟩, Calls.callWith_builtin rfl (PySem.evalArgs_none ?_)⟩
  refine call_meetsIn F.slot_dict_values ⟨ob, ho, ex.1⟩ F.entry_dict_values (F.args_dict_values_1 _) (meets_dict_values (mixKind X.prog X.w) a hsys) ⟨⟨vs, dof⟩, ?_⟩
  have up : ∀ b u, s1.heap.get? b = some u → (s1.heap.push { cls := .type "dict_values", data := .fields #[.ref a] }).get? b = some u := fun b u e => Heap.get?_push_of_some _ e
  have dat1 := dat.keep up
  have alt : a < s1.heap.objs.size := Heap.lt_size ho
  have sz : (s1.heap.push { cls := .type "dict_values", data := .fields #[.ref a] }).objs.size = s1.heap.objs.size + 1 := Heap.size_push _ _
  refine call_max_walk (wpAny_pyIter_values (v := s1.heap.objs.size) (d := a) ⟨_, Heap.get?_push_size _ rfl, rfl, rfl⟩ dat1 ?_)
  refine ⟨_, _, _, _, _, _, _, rfl, Walks.dictValues (knd := mixKind X.prog X.w) (A := X.A.in1) (I.ok.hd hc) (s1.heap.push { cls := .type "dict_values", data := .fields #[.ref a] }).objs.size a (by rw [sz]; exact Nat.ne_of_lt (Nat.lt_succ_of_lt alt)) vs ep,
    ⟨⟨_, Heap.get?_push_size _ rfl, rfl, rfl⟩, dat1.keep fun b u e => Heap.get?_push_of_some _ e⟩, ?_, by omega, CmpOf.ints_gt (fun i => is.getD i 0) vals, ?_⟩
  · intro b hb
    show b < ((s1.heap.push _).push _).objs.size
    rw [Heap.size_push, Heap.size_push]
    rw [sz] at hb
    rcases List.mem_cons.mp hb with e | hb
    · rw [e]; exact Nat.lt_succ_self _
    · rw [show b = a from List.mem_singleton.mp hb]
      exact Nat.lt_succ_of_lt (Nat.lt_succ_of_lt alt)
  · intro v h' tk hP hk
    obtain ⟨t, rfl⟩ := vals _ v hP
    obtain ⟨b1, b2⟩ := argBest_gt (fun i => is.getD i 0) (vs.length - 1)
    refine ⟨.int _, H1, I1.kept (t' := tk) fun b u e => hk b u (fun hmem => ?_) (Heap.get?_push_of_some _ (up b u e)), ⟨t, rfl⟩, q _ ?_ ?_⟩
    · have e1 := List.mem_singleton.mp hmem
      have e2 := Heap.lt_size e
      rw [sz] at e1
      rw [e1] at e2
      exact Nat.lt_irrefl _ (Nat.lt_of_lt_of_le e2 (Nat.le_succ _))
    · have hb : argBest (fun i j => decide (is.getD i 0 > is.getD j 0)) (vs.length - 1) < is.length := by omega
      rw [List.getD_eq_getElem?_getD, List.getElem?_eq_getElem hb]
      exact List.getElem_mem hb
    · intro j hj
      obtain ⟨i, hi, rfl⟩ := List.mem_iff_getElem.mp hj
      have e2 : is.getD i 0 = is[i] := by rw [List.getD_eq_getElem?_getD, List.getElem?_eq_getElem hi] <;> rfl
      rw [← e2]
      exact b2 i (by omega)

/-! ### fields and methods of an instance -/
section
variable {K : PySem.W.Frag} {σ : L2.St} {H : Hp} {Q : VK} {ta tv : TE} {t : TA} {f m : Str} {a C dx : Addr} {fs : List (Str × V)}
/-- x.f is read -/
def gF (K : PySem.W.Frag) (f : Str) (x : V) (H : Hp) (Q : VK) : Prop := ∃ a C dx fs v, x = .ref a ∧ H a = some (.ins C dx fs) ∧ Cls K C ∧ NoAttr K C f ∧ fs.lookup f = some v ∧ Q v H
instance : Stp (tFld K ta f σ H Q) (ta σ H fun x H1 => gF K f x H1 Q) := ⟨id⟩
theorem k_gF {v : V} (e : H a = some (.ins C dx fs)) (c : Cls K C) (n : NoAttr K C f) (l : fs.lookup f = some v) (h : Q v H) : gF K f (.ref a) H Q := ⟨a, C, dx, fs, v, rfl, e, c, n, l, h⟩
/-- x.f = y is written -/
def pF (K : PySem.W.Frag) (f : Str) (x y : V) (H : Hp) (N : Hp → Prop) : Prop := ∃ a C dx fs, x = .ref a ∧ H a = some (.ins C dx fs) ∧ Cls K C ∧ NoAttr K C f ∧ fs.length < 1000 ∧ N (upd H a (.ins C dx (putF f y fs)))
instance {nx bk ct : L2.St → Hp → Prop} {rt : VK} : Stp (sFld K ta tv f ⟨nx, rt, bk, ct⟩ σ H) (tv σ H fun y H1 => ta σ H1 fun x H2 => pF K f x y H2 (nx σ)) := ⟨id⟩
theorem k_pF {y : V} {N : Hp → Prop} (e : H a = some (.ins C dx fs)) (c : Cls K C) (n : NoAttr K C f) (l : fs.length < 1000) (h : N (upd H a (.ins C dx (putF f y fs)))) : pF K f (.ref a) y H N := ⟨a, C, dx, fs, rfl, e, c, n, l, h⟩
/-- x.m is a method's call -/
def mF (C : Addr) (m : Str) (x : V) (H : Hp) (P : Prop) : Prop := ∃ a dx fs, x = .ref a ∧ H a = some (.ins C dx fs) ∧ fs.lookup m = none ∧ P
instance {sp : Sp} {E : XK} : Stp (tMeth C m sp [] E ta t σ H Q) (ta σ H fun x H1 => mF C m x H1 (t σ H1 fun vs H2 => sp (x :: vs) H2 Q E)) := ⟨fun h => by
  unfold tMeth
  simp only [List.append_nil]
  exact h⟩
theorem k_mF {P : Prop} (e : H a = some (.ins C dx fs)) (l : fs.lookup m = none) (h : P) : mF C m (.ref a) H P := ⟨a, dx, fs, rfl, e, l, h⟩
/-- a new instance -/
def newI (C : Addr) (sp : Sp) (E : XK) (vs : List V) (H : Hp) (Q : VK) : Prop := ∀ x dx, H x = none → H dx = none → dx ≠ x → sp (.ref x :: vs) (upd (upd H dx (.own x)) x (.ins C dx [])) (fun v H2 => v = .non ∧ Q (.ref x) H2) E
instance {sp : Sp} {E : XK} : Stp (tMake C sp [] E t σ H Q) (t σ H fun vs H1 => newI C sp E vs H1 Q) := ⟨fun h => by
  unfold tMake
  simp only [List.append_nil]
  exact h⟩
end

/-! ### methods and makings that may raise, in a try -/
section
variable {X : Cx} {CX : CXT} {k : Nat} {f C : Addr} {fd : FuncData} {ps : List Str} {sp : Sp} {E : L2.St → XK} {x m : Str} {p pos apos : Pos} {e o : Expr} {es : List Expr} {ta : TE} {t : TA}
def tMtS (C : Addr) (m : Str) (sp : Sp) (E : L2.St → XK) (ta : TE) (t : TA) : TE := fun σ H Q => ta σ H fun x H1 => ∃ a dx fs, x = .ref a ∧ H1 a = some (.ins C dx fs) ∧ fs.lookup m = none ∧ t σ H1 fun vs H2 => sp (x :: vs) H2 Q (E σ)
theorem pe_mtS {pl : Sem Bool} (he : PE X o ta) (c : Cls X.K C) (hm : Meth X.K C m f) (F : FnOk X.prog X.w X.K X.mg X.base CX k f fd ps sp) (hr : Room k X.A) (hb : Binds X.K fd ps []) (hx : ∀ σ, PassesAt CX X σ (E σ)) (ha : PA X (e :: es) t)
    (hst : starEach (e :: es) X.env = (false, eval e X.env) :: starEach es X.env := by rfl) (hpl : (backTo pos (starEach es X.env)).any (·.1) = false := by rfl)
    (ht : eval (.Call (.Attribute o m apos) (e :: es) [] pos) X.env = (do
      let ov ← eval o X.env
      standAt apos.atName
      let (f, first) ← holding [ov] (getMethod ov m pl)
      callWith pos f first (backTo pos (starEach (e :: es) X.env)) (backToKw pos (keywordEach [] X.env))) := by rfl) :
    PE X (.Call (.Attribute o m apos) (e :: es) [] pos) (tMtS C m sp E ta t) := by
  refine ⟨fun pins s σ H Q I h => ?_⟩
  refine PySem.W.methodCall_KW (pl := pl) (thn (he.run pins s σ H _ I h) fun u s1 ⟨x, H1, I1, rx, a, dx, fs, ex, ea, l, q⟩ => ?_) ht
  subst ex
  obtain rfl : u = Value.ref a := rx
  refine getmeth_ok I1 ea c hm l ?_
  refine PySem.W.callWith_K (first := [.ref a]) (h₀ := X.base) I.ok.mod.kin hm.kp (thn (ha.run pos pins s1 σ H1 _ I1 q) fun us s2 ⟨vs, H2, I2, r, q2⟩ => ⟨I2.kIn, ?_⟩) hst hpl
  exact run_fnS (us := .ref a :: us) (vs := .ref a :: vs) F hr hb (hx σ) I2 (.cons rfl r) q2
def tMakeS (C : Addr) (sp : Sp) (E : L2.St → XK) (t : TA) : TE := fun σ H Q => t σ H fun vs H1 => ∀ x dx, H1 x = none → H1 dx = none → dx ≠ x → sp (.ref x :: vs) (upd (upd H1 dx (.own x)) x (.ins C dx [])) (fun v H2 => v = .non ∧ Q (.ref x) H2) (E σ)
theorem pe_makeS (M : Mk X.K C f) (F : FnOk X.prog X.w X.K X.mg X.base CX k f fd ps sp) (hr : Room (k + 1) X.A) (hg : Gl X x) (hm : X.mg x = some (.ref C)) (hb : Binds X.K fd ps []) (hx : ∀ σ, PassesAt CX X σ (E σ))
    (ha : PA X (e :: es) t) (hdb : (x == ("__debug__" : Str)) = false := by decide) (he : starEach (e :: es) X.env = (false, eval e X.env) :: starEach es X.env := by rfl) (hpl : (backTo pos (starEach es X.env)).any (·.1) = false := by rfl) :
    PE X (.Call (.Name x p) (e :: es) [] pos) (tMakeS C sp E t) := by
  refine ⟨fun pins s σ H Q I h => ?_⟩
  refine wpAny_Call_Name_kw (ld_glob I hg hm ?_ hdb)
  refine PySem.W.callWith_K (h₀ := X.base) I.ok.mod.kin M.kp (thn (ha.run pos pins s σ H _ I h) fun us s1 ⟨vs, H1, I1, r, q⟩ => ⟨I1.kIn, ?_⟩) he hpl
  have hq := q (s1.heap.objs.size + 1) s1.heap.objs.size (I1.hok.fresh (Nat.le_succ _)) (I1.hok.fresh (Nat.le_refl _)) (Nat.ne_of_lt (Nat.lt_succ_self _))
  have I2 := Inv.made (C := C) I1
  have r2 : Vals (V.ref (s1.heap.objs.size + 1) :: vs) (Value.ref (s1.heap.objs.size + 1) :: us) := .cons rfl r
  have hl : (Value.ref (s1.heap.objs.size + 1) :: us ++ []).length = ps.length := by
    have e := r2.length
    rw [F.len _ _ _ _ hq] at e
    rw [List.append_nil]
    exact e.symm
  have b := hb _ (Value.ref (s1.heap.objs.size + 1) :: us) I2.kIn hl
  rw [List.append_nil] at b
  refine wpAny_call (make_map (f := f) I1.kIn M.makes M.init (beq_iff_eq.mp M.fn) (codeAny_mono (F.run _ X.stack _ _ ⟨Value.ref (s1.heap.objs.size + 1) :: us, []⟩ (Value.ref (s1.heap.objs.size + 1) :: us) _ _ (E σ) (hr.make C us [])
    (I2.env0.make C us []) b r2 hq) fun r s' hq' => ?_))
  cases r with
  | error e => exact hx σ pins _ _ e s' I2 hq'
  | ok fl =>
    cases fl with
    | ret u =>
      obtain ⟨v, H', I3, rv, ev, q3⟩ := I2.after hq'
      subst ev
      exact ⟨rv, ⟨V.ref (s1.heap.objs.size + 1), H', I3, rfl, q3⟩⟩
    | next => exact False.elim hq'
    | brk => exact False.elim hq'
    | cont => exact False.elim hq'
end
section
variable {σ : L2.St} {H : Hp} {Q : VK} {ta : TE} {t : TA} {m : Str} {C : Addr}
instance {sp : Sp} {E : L2.St → XK} : Stp (tMtS C m sp E ta t σ H Q) (ta σ H fun x H1 => mF C m x H1 (t σ H1 fun vs H2 => sp (x :: vs) H2 Q (E σ))) := ⟨id⟩
instance {sp : Sp} {E : L2.St → XK} : Stp (tMakeS C sp E t σ H Q) (t σ H fun vs H1 => newI C sp (E σ) vs H1 Q) := ⟨id⟩
end
/-! ### a comprehension over a range whose items are new things, each by itself -/
section
variable {K : PySem.W.Frag} {σ : L2.St} {H1 : Hp} {Q : VK} {g : TG} {tt : TT} {te : TE} {vs : List Nat}
theorem lc_rowsR {QD : Addr → Hp → Prop} {lo : Int} {n : Nat} (hz : n ≤ 50000) (F : Nat → HO)
    (step : ∀ (i : Nat) H', i < n → Same H1 H' → ∀ (R : V → Hp → Prop) (R0 : Hp → Prop), (∀ p H'', H' p = none → Same H' H'' → H'' p = some (F i) → R (.ref p) H'') →
      g (.int (lo + (i : Nat))) (wipe σ vs) H' fun σ2 H2 => wipe σ2 vs = wipe σ vs ∧ tt σ2 H2 fun b H3 => if b = true then te σ2 H3 R else R0 H3)
    (h : ∀ (D : Addr) (rs : List Addr) (H' : Hp), H1 D = none → Same H1 H' → H' D = some (.lst (rs.map V.ref)) → rs.length = n → rs.Nodup → D ∉ rs → (∀ r ∈ rs, H1 r = none) → (∀ (j : Nat) r, rs[j]? = some r → H' r = some (F j)) → QD D H') :
    ∀ D, H1 D = none → ∃ W : Nat → Nat → Hp → Prop, (∃ m, W 0 m (upd H1 D (.lst []))) ∧ ∀ i m H, W i m H →
      ((Itr lo n).stop i H ∧ QD D H) ∨ ((Itr lo n).go i H ∧ ∃ Nx : Hp → Prop, (∀ H', Nx H' → ∃ m', m' < m ∧ W (i + 1) m' H') ∧ ∀ x H', (Itr lo n).yld i H x H' → g x (wipe σ vs) H' fun σ2 H2 => wipe σ2 vs = wipe σ vs ∧ tt σ2 H2 fun b H3 =>
        if b = true then te σ2 H3 fun y H4 => ∃ acc, H4 D = some (.lst acc) ∧ acc.length < sizeLine ∧ Nx (upd H4 D (.lst (acc ++ [y]))) else Nx H3) := by
  refine fun D nD => lc_range (fun i H => Same H1 H ∧ ∃ rs : List Addr, H D = some (.lst (rs.map V.ref)) ∧ rs.length = i ∧ rs.Nodup ∧ D ∉ rs ∧ (∀ r ∈ rs, H1 r = none) ∧ ∀ (j : Nat) r, rs[j]? = some r → H r = some (F j))
    ⟨same_new nD, [], by rw [upd_same]; rfl, rfl, List.nodup_nil, by simp, (fun r z => by cases z), (fun j r z => by simp at z)⟩ ?_ ?_
  · rintro i H hi ⟨sm, rs, hD, lr, nd, dr, fr, at_⟩
    refine step i H hi sm _ _ (fun p H'' np s2 ep => ⟨_, s2 _ _ hD, szl (by simp; omega), same_mut (sm.trans s2) nD, rs ++ [p], ?_, by simp [lr], ?_, ?_, ?_, ?_⟩)
    · rw [upd_same, List.map_append]; rfl
    · rw [List.nodup_append]
      refine ⟨nd, by simp, fun r hr q hq e => ?_⟩
      rw [List.mem_singleton.mp hq] at e
      subst e
      obtain ⟨j, hj⟩ := List.mem_iff_getElem?.mp hr
      rw [at_ j _ hj] at np
      cases np
    · intro z
      rcases List.mem_append.mp z with z | z
      · exact dr z
      · rw [List.mem_singleton.mp z] at hD
        rw [hD] at np
        cases np
    · intro r hr
      rcases List.mem_append.mp hr with hr | hr
      · exact fr r hr
      · rw [List.mem_singleton.mp hr]; exact sm.free np
    · intro j r hr
      have rD : r ≠ D := fun e => by
        rcases List.mem_append.mp (List.mem_of_getElem? hr) with z | z
        · exact dr (e ▸ z)
        · rw [List.mem_singleton.mp z] at e
          rw [e, hD] at np
          cases np
      rw [upd_ne rD]
      by_cases c : j < rs.length
      · rw [List.getElem?_append_left c] at hr
        exact s2 _ _ (at_ j r hr)
      · have hj : j = i := by
          have := (List.getElem?_eq_some_iff.mp hr).1
          simp at this
          omega
        subst hj
        rw [List.getElem?_append_right (by omega), lr, Nat.sub_self] at hr
        cases hr
        exact ep
  · rintro H ⟨sm, rs, hD, lr, nd, dr, fr, at_⟩
    exact h D rs H nD sm hD lr nd dr fr at_
end
/-! ### dicts with whole numbers for keys -/
section
variable {σ : L2.St} {H : Hp} {Q : VK} {td ty tx tv : TE} {p : Addr} {kvs : List (Key × V)} {t : Int} {v z : V} {nx bk ct : L2.St → Hp → Prop} {rt : VK}
def newD (H : Hp) (Q : VK) : Prop := ∀ p, H p = none → Q (.ref p) (upd H p (.dK []))
instance : Stp (tDNewK σ H Q) (newD H Q) := ⟨id⟩
theorem kD (h : ∀ p H', H p = none → Same H H' → H' p = some (.dK []) → Q (.ref p) H') : newD H Q := fun p np => h p _ np (same_new np) upd_same
def aD (x : V) (H : Hp) (R : Addr → Prop) : Prop := ∃ a, x = .ref a ∧ IsD H a ∧ R a
def gD2 (a : Addr) (y z : V) (H : Hp) (Q : VK) : Prop := ∃ o, DGet H a y o ∧ Q (o.getD z) H
instance : Stp (tDGet2 td ty tx σ H Q) (td σ H fun x H1 => aD x H1 fun a => ty σ H1 fun y H2 => tx σ H2 fun z H3 => gD2 a y z H3 Q) := ⟨id⟩
theorem k_aD {R : Addr → Prop} (e : H p = some (.dK kvs)) (h : R p) : aD (.ref p) H R := ⟨p, rfl, .inl ⟨kvs, .inl e⟩, h⟩
theorem k_gD2 (e : H p = some (.dK kvs)) (h : Q ((valV kvs (.inl t)).getD z) H) : gD2 p (.int t) z H Q := ⟨_, DGet.k (k := .inl t) e, h⟩
def pD (x y v : V) (H : Hp) (N : Hp → Prop) : Prop := ∃ a H4, x = .ref a ∧ DPut H a y v H4 ∧ N H4
instance : Stp (sDPut td ty tv ⟨nx, rt, bk, ct⟩ σ H) (tv σ H fun v H1 => td σ H1 fun x H2 => ty σ H2 fun y H3 => pD x y v H3 (nx σ)) := ⟨id⟩
theorem k_pD {N : Hp → Prop} (e : H p = some (.dK kvs)) (l : kvs.length < 100000) (h : N (upd H p (.dK (putK kvs (.inl t) v)))) : pD (.ref p) (.int t) v H N := ⟨p, _, rfl, DPut.k (k := .inl t) e (szl l), h⟩
def gMx (x : V) (H : Hp) (Q : VK) : Prop := ∃ (a : Addr) (kvs : List (Key × V)) (is : List Int), x = V.ref a ∧ H a = some (.dK kvs) ∧ kvs.map (·.2) = is.map V.int ∧ is ≠ [] ∧ ∀ m, m ∈ is → (∀ j ∈ is, j ≤ m) → Q (.int m) H
instance : Stp (tMaxVals td σ H Q) (td σ H fun x H1 => gMx x H1 Q) := ⟨id⟩
theorem k_gMx {is : List Int} (e : H p = some (.dK kvs)) (hv : kvs.map (·.2) = is.map V.int) (ne : is ≠ []) (h : ∀ m, m ∈ is → (∀ j ∈ is, j ≤ m) → Q (.int m) H) : gMx (.ref p) H Q := ⟨p, kvs, is, rfl, e, hv, ne, h⟩
end
/-! ### list.insert -/
def rIns : V → List V → Hp → VK → Prop := fun x vs H Q => ∃ (l : Addr) (xs : List V) (i : Int) (y : V), x = .ref l ∧ vs = [.int i, y] ∧ H l = some (.lst xs) ∧ xs.length < sizeLine ∧ 0 ≤ i ∧ i < 2 ^ 63 ∧ Q .non (upd H l (.lst (xs.take i.toNat ++ [y] ++ xs.drop i.toNat)))
theorem k_ins {H : Hp} {Q : VK} {l : Addr} {xs : List V} {i : Int} {y : V} (e : H l = some (.lst xs)) (hl : xs.length < 100000) (h0 : 0 ≤ i) (h1 : i < 1000000) (h : Q .non (upd H l (.lst (xs.take i.toNat ++ [y] ++ xs.drop i.toNat)))) : rIns (.ref l) [.int i, y] H Q := ⟨l, xs, i, y, rfl, rfl, e, szl hl, h0, by omega, h⟩
/-! ### reads of a dict, loops over its keys -/
section
variable {σ : L2.St} {H : Hp} {Q : VK} {td ty : TE} {p : Addr} {kvs : List (Key × V)} {t : Int} {v : V} {nx bk ct : L2.St → Hp → Prop} {rt : VK}
def gD1 (x y : V) (H : Hp) (Q : VK) : Prop := ∃ a v, x = .ref a ∧ DGet H a y (some v) ∧ Q v H
instance : Stp (tDGet td ty σ H Q) (td σ H fun x H1 => ty σ H1 fun y H2 => gD1 x y H2 Q) := ⟨id⟩
theorem k_gD1 (e : Rd H p (.dK kvs)) (hv : valV kvs (.inl t) = some v) (h : Q v H) : gD1 (.ref p) (.int t) H Q := ⟨p, v, rfl, .inl ⟨kvs, .inl t, e, rfl, hv.symm⟩, h⟩
theorem upd_self {H : Hp} {d : Addr} {u : HO} (h : H d = some u) : upd H d u = H := by
  funext b
  unfold upd
  split
  · rename_i e; rw [e, h]
  · rfl
/-- a for over the keys of a dict of numbers; the heap stays -/
theorem forD {g : TG} {tb : TS} {D : Ends} (hd : H p = some (.dK kvs)) (Pv : Nat → L2.St → Prop) (h0 : Pv 0 σ)
    (htd : ∀ (R : V → Hp → Prop) od, R (.ref p) (upd H p (.frz od (.dK kvs))) → td σ (upd H p (.frz od (.dK kvs))) R)
    (hs : ∀ (od : Obj) (i : Nat) k v σ, kvs[i]? = some (k, v) → Pv i σ → ∀ (N B C : L2.St → Hp → Prop) (rt : VK), (∀ σ', Pv (i + 1) σ' → N σ' (upd H p (.frz od (.dK kvs)))) → (∀ v, D.rt v H → rt v (upd H p (.frz od (.dK kvs)))) →
      g (kV k) σ (upd H p (.frz od (.dK kvs))) fun σ2 H2 => tb ⟨N, rt, B, C⟩ σ2 H2)
    (fin : ∀ σ', Pv kvs.length σ' → D.nx σ' H) : tLock (tFor (iKeys td) g tb) D σ H := by
  refine ⟨p, .dK kvs, hd, trivial, fun od => ?_⟩
  refine htd _ od ⟨p, od, rfl, .inl ⟨kvs, upd_same, ?_⟩⟩
  have back : upd (upd H p (.frz od (.dK kvs))) p (.dK kvs) = H := by rw [upd_upd, upd_self hd]
  refine for_it walk_keys (fun i σ' H' => H' = upd H p (.frz od (.dK kvs)) ∧ Pv i σ') ⟨rfl, h0⟩ (fun i σ' H' _ e => by rw [e.1]; exact upd_same) ?_ ?_
  · rintro i x σ' H' H'' hi ⟨rfl, pv⟩ ⟨rfl, k, v, hkv, rfl⟩
    exact hs od i k v σ' hkv pv _ _ _ _ (fun σ' h => ⟨rfl, h⟩) (fun v h => ⟨upd_same, by rw [back]; exact h⟩)
  · rintro σ' H' ⟨rfl, pv⟩
    exact ⟨upd_same, by rw [back]; exact fin σ' pv⟩
end
/-- a dict of counts -/
structure Cnt (kvs : List (Key × V)) (c : Int → Nat) (m : Nat) : Prop where
  isI : ∃ is : List Int, kvs.map (·.2) = is.map V.int
  val : ∀ t, valV kvs (.inl t) = if c t = 0 then none else some (.int (c t : Nat))
  len : kvs.length ≤ m
theorem Cnt.nil : Cnt [] (fun _ => 0) 0 := ⟨⟨[], rfl⟩, fun t => by rw [valV_nil]; rfl, Nat.le_refl _⟩
theorem putK_lenN (c : List (Key × V)) (k : Key) (x : V) : (putK c k x).length ≤ c.length + 1 := by
  unfold putK
  split
  · rw [List.length_map]; omega
  · rw [List.length_append]; simp
theorem mapK_ints {k : Key} {x : Int} : ∀ (kvs : List (Key × V)) (is : List Int), kvs.map (·.2) = is.map V.int → ∃ is : List Int, (kvs.map fun kv => if kv.1 = k then (kv.1, V.int x) else kv).map (·.2) = is.map V.int
  | [], _, _ => ⟨[], rfl⟩
  | a :: r, [], h => by simp at h
  | a :: r, j :: js, h => by
    simp only [List.map_cons, List.cons.injEq] at h
    obtain ⟨is', h'⟩ := mapK_ints r js h.2
    by_cases c : a.1 = k
    · exact ⟨x :: is', by rw [List.map_cons, List.map_cons, if_pos c, h']; rfl⟩
    · exact ⟨j :: is', by rw [List.map_cons, List.map_cons, if_neg c, h', h.1]; rfl⟩
theorem putK_ints {kvs : List (Key × V)} {k : Key} {x : Int} (h : ∃ is : List Int, kvs.map (·.2) = is.map V.int) : ∃ is : List Int, (putK kvs k (.int x)).map (·.2) = is.map V.int := by
  obtain ⟨is, h⟩ := h
  unfold putK
  split
  · exact mapK_ints kvs is h
  · exact ⟨is ++ [x], by rw [List.map_append, List.map_append, h]; rfl⟩
theorem Cnt.put {kvs : List (Key × V)} {c : Int → Nat} {m : Nat} (h : Cnt kvs c m) (t : Int) {x : Int} (hx : x = ((c t + 1 : Nat) : Int)) : Cnt (putK kvs (.inl t) (.int x)) (fun s => if s = t then c s + 1 else c s) (m + 1) := by
  obtain ⟨h1, h2, h3⟩ := h
  refine ⟨putK_ints h1, fun s => ?_, Nat.le_trans (putK_lenN _ _ _) (by omega)⟩
  rw [valV_put]
  by_cases e : s = t
  · subst e
    rw [if_pos rfl, if_pos rfl, if_neg (by omega), hx]
  · rw [if_neg (fun z => e (by simpa using z)), if_neg e]
    exact h2 s
theorem Cnt.get {kvs : List (Key × V)} {c : Int → Nat} {m : Nat} (h : Cnt kvs c m) (t : Int) : (valV kvs (.inl t)).getD (.int 0) = .int (c t : Nat) := by
  rw [h.val t]
  split
  · rename_i e
    rw [e]; rfl
  · rfl
theorem Cnt.mem {kvs : List (Key × V)} {c : Int → Nat} {m : Nat} (h : Cnt kvs c m) {is : List Int} (hi : kvs.map (·.2) = is.map V.int) {t : Int} (ht : c t ≠ 0) : ((c t : Nat) : Int) ∈ is := by
  have hv := h.val t
  rw [if_neg ht] at hv
  unfold valV at hv
  obtain ⟨kv, hk, e⟩ := Option.map_eq_some_iff.mp hv
  have hm : V.int ((c t : Nat) : Int) ∈ is.map V.int := by
    rw [← hi, ← e]
    exact List.mem_map_of_mem (List.mem_of_find?_eq_some hk)
  obtain ⟨y, hy, e2⟩ := List.mem_map.mp hm
  cases e2
  exact hy
theorem Cnt.ext {kvs : List (Key × V)} {c c' : Int → Nat} {m m' : Nat} (h : Cnt kvs c m) (e : ∀ t, c t = c' t) (l : m ≤ m') : Cnt kvs c' m' := by
  obtain rfl : c = c' := funext e
  exact ⟨h.isI, h.val, Nat.le_trans h.len l⟩
/-! ### a list told by its places -/
theorem getR {n l : Nat} {f : Nat → Int} (h : l < n) : ((List.range n).map f)[l]? = some (f l) := by
  rw [List.getElem?_map, List.getElem?_range h]; rfl
theorem setR {n l : Nat} {f : Nat → Int} {v : Int} : ((List.range n).map f).set l v = (List.range n).map fun j => if j = l then v else f j := by
  refine List.ext_getElem? fun k => ?_
  rw [List.getElem?_set]
  by_cases c : l = k
  · subst c
    rw [if_pos rfl]
    by_cases d : l < n
    · rw [if_pos (by simpa using d), getR d, if_pos rfl]
    · rw [if_neg (by simpa using d), List.getElem?_eq_none (by simpa using d)]
  · rw [if_neg c]
    by_cases d : k < n
    · rw [getR d, getR d, if_neg (fun e => c e.symm)]
    · rw [List.getElem?_eq_none (by simpa using d), List.getElem?_eq_none (by simpa using d)]
/-! ### a range with a step; bits to the right -/
instance {σ : L2.St} {H : Hp} {ta : TA} {R : It → Hp → Prop} : Stp (iRng3 ta σ H R) (ta σ H fun vs H1 => ∃ (i j c : Int) (n : Nat), vs = [.int i, .int j, .int c] ∧ RgC i j c n ∧ R (Itc i c n) H1) := ⟨id⟩
theorem forC {σ : L2.St} {H : Hp} {nx : L2.St → Hp → Prop} {rt : VK} {lo c : Int} {n : Nat} {g : TG} {tb : TS} (Pv : Nat → L2.St → Hp → Prop) (h0 : Pv 0 σ H)
    (hs : ∀ (i : Nat) σ H, i < n → Pv i σ H → g (.int (lo + (i : Nat) * c)) σ H fun σ2 H2 => tb ⟨Pv (i + 1), rt, nx, Pv (i + 1)⟩ σ2 H2) (hd : ∀ σ H, Pv n σ H → nx σ H) :
    ∃ W : Nat → Nat → L2.St → Hp → Prop, (∃ m, W 0 m σ H) ∧ ∀ i m σ H, W i m σ H →
      ((Itc lo c n).stop i H ∧ nx σ H) ∨ ((Itc lo c n).go i H ∧ ∃ N : L2.St → Hp → Prop, (∀ σ' H', N σ' H' → ∃ m', m' < m ∧ W (i + 1) m' σ' H') ∧ ∀ x H', (Itc lo c n).yld i H x H' → g x σ H' fun σ2 H2 => tb ⟨N, rt, nx, N⟩ σ2 H2) :=
  for_rangeC (D := ⟨nx, rt, fun _ _ => False, fun _ _ => False⟩) Pv h0 hs hd
def xShr : R2 := rI (fun _ j => 0 ≤ j) fun i j => .int (i / 2 ^ j.toNat)
theorem k_shr {H : Hp} {Q : VK} {i j : Int} (hc : 0 ≤ j) (h : Q (.int (i / 2 ^ j.toNat)) H) : xShr (.int i) (.int j) H Q := ⟨i, j, rfl, rfl, hc, h⟩
/-! ### dict(d), len(d), k in d -/
def rDictD : List V → Hp → VK → Prop := fun xs H Q => ∃ (a : Addr) (kvs : List (Key × V)), xs = [.ref a] ∧ Rd H a (.dK kvs) ∧ ∀ p, H p = none → Q (.ref p) (upd H p (.dK kvs))
theorem q_dictD {X : Cx} : CallR X (.type "dict") rDictD := call_dictD
def rLenD : List V → Hp → VK → Prop := fun xs H Q => ∃ (a : Addr) (kvs : List (Key × V)), xs = [V.ref a] ∧ H a = some (.dK kvs) ∧ Q (.int kvs.length) H
theorem q_lenD {X : Cx} : CallR X (.builtin "len") rLenD := call_lenD
section
variable {σ : L2.St} {H : Hp} {Q : VK} {td ty : TE} {p : Addr} {kvs : List (Key × V)} {t : Int}
def iD (neg : Bool) (y x : V) (H : Hp) (Q : VK) : Prop := ∃ a o, x = .ref a ∧ DGet H a y o ∧ Q (.bl (if neg then !o.isSome else o.isSome)) H
instance : Stp (tDIn ty td σ H Q) (ty σ H fun y H1 => td σ H1 fun x H2 => iD false y x H2 Q) := ⟨id⟩
instance : Stp (tDNotIn ty td σ H Q) (ty σ H fun y H1 => td σ H1 fun x H2 => iD true y x H2 Q) := ⟨id⟩
theorem k_iD {neg : Bool} (e : H p = some (.dK kvs)) (h : Q (.bl (if neg then !(valV kvs (.inl t)).isSome else (valV kvs (.inl t)).isSome)) H) : iD neg (.int t) (.ref p) H Q := ⟨p, _, rfl, DGet.k (k := .inl t) e, h⟩
theorem k_dictD (e : H p = some (.dK kvs)) (h : ∀ q H', H q = none → Same H H' → H' q = some (.dK kvs) → Q (.ref q) H') : rDictD [.ref p] H Q := ⟨p, kvs, rfl, .inl e, fun q nq => h q _ nq (same_new nq) upd_same⟩
theorem k_lenD (e : H p = some (.dK kvs)) (h : Q (.int kvs.length) H) : rLenD [.ref p] H Q := ⟨p, kvs, rfl, e, h⟩
end
theorem u65 {k : Nat} {A : Around} (r : Room k A) : A.units + 65 < cLine := by have := r.un; omega
end Cm

namespace HT
open PySem PySem.Spec PyProof.Rows
section
variable {prog : Program} {w : World} {A : Around} {E : Value → Shared → Prop} {s : Shared}
/-! ### t[::-1] -/
theorem sliceApplied_rev {sl : Addr} {vs : Value} {n : Nat} {Q : Int × Int × Nat → Shared → Prop} (hs : s.heap.IsSliceOf sl .none .none vs) (ps : IsPart vs (some (-1)))
    (h : Q ((n : Int) - 1, -1, n) s) : wpAny (model prog w) A (Builtin.Slice.sliceApplied (.ref sl) (pure (n : Int))) Q E s := by
  obtain ⟨os, hos, hcs, hds⟩ := id hs
  unfold Builtin.Slice.sliceApplied Builtin.Slice.sliceFields
  refine wpAny_bind (wpAny_bind (wpAny_field hos hds (x := .none) rfl (wpAny_bind (wpAny_field hos hds (x := .none) rfl (wpAny_bind (wpAny_field hos hds (x := vs) rfl (wpAny_pure ?_)))))))
  refine wpAny_bind (slicePart_ ps ?_)
  show wpAny _ _ (if ((-1 : Int) == 0) = true then _ else _) _ _ s
  rw [if_neg (by decide)]
  refine wpAny_bind (slicePart_none (wpAny_bind (slicePart_none (wpAny_bind (wpAny_pure ?_)))))
  show wpAny _ _ (match Builtin.Slice.sliceAdjust none none (-1) (n : Int) with | (lo, hi) => pure (lo, (-1 : Int), Builtin.Slice.slicePlaces lo hi (-1))) _ _ s
  rw [show Builtin.Slice.sliceAdjust none none (-1) (n : Int) = ((n : Int) - 1, -1) by unfold Builtin.Slice.sliceAdjust; simp]
  show wpAny _ _ (pure ((n : Int) - 1, (-1 : Int), Builtin.Slice.slicePlaces ((n : Int) - 1) (-1) (-1))) _ _ s
  have e : Builtin.Slice.slicePlaces ((n : Int) - 1) (-1) (-1) = n := by
    unfold Builtin.Slice.slicePlaces
    rw [if_neg (by decide)]
    split
    · rw [show (- -1 : Int) = 1 by decide, Int.ediv_one]; omega
    · omega
  rw [e]
  exact wpAny_pure h
theorem fm_congr {α β : Type} {f g : α → Option β} : ∀ l : List α, (∀ x ∈ l, f x = g x) → l.filterMap f = l.filterMap g
  | [], _ => rfl
  | a :: r, h => by
    rw [List.filterMap_cons, List.filterMap_cons, h a List.mem_cons_self, fm_congr r fun x hx => h x (List.mem_cons_of_mem _ hx)]
theorem pick_rev (xs : Array Value) : ((List.range xs.size).filterMap fun (m : Nat) => xs[((xs.size : Int) - 1 + (m : Int) * -1).toNat]?).toArray = xs.toList.reverse.toArray := by
  congr 1
  refine List.ext_getElem? fun i => ?_
  have e : (List.range xs.size).filterMap (fun (m : Nat) => xs[((xs.size : Int) - 1 + (m : Int) * -1).toNat]?) = (List.range xs.size).map fun m => xs.toList.getD (xs.size - 1 - m) .none := by
    rw [← List.filterMap_eq_map]
    refine fm_congr _ fun m hm => ?_
    have hm' := List.mem_range.mp hm
    have : ((xs.size : Int) - 1 + (m : Int) * -1).toNat = xs.size - 1 - m := by omega
    rw [this]
    have hl : xs.size - 1 - m < xs.size := by omega
    simp [List.getD_eq_getElem?_getD, hl]
  rw [e, List.getElem?_map]
  by_cases c : i < xs.size
  · rw [List.getElem?_range c, List.getElem?_reverse (by simpa using c)]
    have hl : xs.size - 1 - i < xs.size := by omega
    simp [List.getD_eq_getElem?_getD, hl]
  · rw [List.getElem?_eq_none (by simpa using c), List.getElem?_eq_none (by simpa using c)]
    rfl
theorem getItem_tuple_rev {t sl : Addr} {items : Array Value} {vs : Value} {Q : Value → Shared → Prop} (ht : IsTup s.heap t items) (hs : s.heap.IsSliceOf sl .none .none vs) (ps : IsPart vs (some (-1)))
    (h : Q (.ref s.heap.objs.size) { s with heap := s.heap.push { cls := .type "tuple", data := .seq items.toList.reverse.toArray } })
    (hsz : items.size ≤ sizeLine) : wpAny (model prog w) A (getItem (.ref t) (.ref sl)) Q E s := by
  have htake : sizeOk (.seq items.toList.reverse.toArray) := by
    show items.toList.reverse.toArray.size ≤ sizeLine
    rw [List.size_toArray, List.length_reverse, Array.length_toList]
    exact hsz
  obtain ⟨os, hos, hcs, hds⟩ := id hs
  have hTs : s.TypeIs (.ref sl) "slice" := ⟨os, hos, hcs⟩
  unfold getItem
  try with_reducible refine wpAny_holding ?_
  first | refine wpAny_bind (wpAny_pure ?_) | skip
  refine wpAny_bind (wpAny_sequenceKey ht.typeIs (by decide) ?_)
  refine wpAny_bind (wpAny_callSpecial?_slot (name := Str.ofString "__getitem__") ht.typeIs PyProof.Rows.slot_tuple_getitem
    (wpAny_call_entry PyProof.Rows.slot_tuple_getitem ht.typeIs entry_tuple_getitem ?_ (args_tuple_getitem _ _)))
  show wpAny _ _ (Builtin.Tuple.tupleItemsOf (.ref t) >>= _) _ _ s
  refine wpAny_bind (tupleItemsOf_ ht ?_)
  refine wpAny_bind (wpAny_typeOf hTs ?_)
  rw [if_pos (by decide)]
  refine wpAny_bind (sliceApplied_rev hs ps ?_)
  have hno : ¬ ((((items.size : Int) - 1) == 0 && (-1 : Int) == 1 && items.size == items.size) = true) := by
    intro q
    rw [Bool.and_eq_true, Bool.and_eq_true] at q
    exact absurd q.1.2 (by decide)
  show wpAny _ _ (if (((items.size : Int) - 1) == 0 && (-1 : Int) == 1 && items.size == items.size) = true then _ else _) _ _ s
  rw [if_neg hno, pick_rev]
  first
    | exact wpAny_bind (m := Builtin.Tuple.tupleExact _) (wpAny_newObj_type (wpAny_pure ⟨_, rfl, wpAny_pure h⟩) htake)
    | exact wpAny_bind (m := Builtin.Tuple.tupleExact _) (wpAny_newObj_type (wpAny_bind (wpAny_pure (wpAny_pure ⟨_, rfl, wpAny_pure h⟩))) htake)
/-! ### list(reversed(list)) -/
end
end HT
namespace HT
open PySem PySem.Spec PyProof.Rows L2 RT
section
variable {prog : Program} {w : World} {A : Around} {E : Value → Shared → Prop} {s : Shared}
theorem extend_rev {R : Result → Shared → Prop} {it l S : Addr} {items : Array Value} {c0 : Nat} (hh : A.handled = none) (res : Value) (hit : s.heap.IsRevIter it l ((items.size : Int) - 1)) (hl : s.heap.IsList l items) (hne : l ≠ it) (hn : items.size ≤ sizeLine) (hSi : S ≠ it) (hSl : S ≠ l)
    (hS : s.heap.get? S = some { cls := .type "list", data := .seq #[] c0 })
    (hR : ∀ (h' : Heap) (tk : Nat) (acc : Array Value) (c' : Nat), (∀ b o, b ≠ it → b ≠ S → s.heap.get? b = some o → h'.get? b = some o) → h'.get? S = some { cls := .type "list", dict := none, data := .seq acc c', slots := #[] } → ItemsOf (fun i v => items[items.size - 1 - i]? = some v) acc items.size → R (.ok (.ret res)) { s with heap := h', toks := tk }) :
    wpAny (model prog w) A.in1 (Builtin.List.listExtendWith (.ref S) (.ref it) res)
      (fun fin s' => match fin with | .done f => R (.ok f) s' | .again c' => c'.quiet = true ∧ codeAny (model prog w) A c' R s') (fun e s' => R (.error e) s') s := by
  have W := (Walks.listRev (prog := prog) (w := w) (A := A.in1) hh it l hne items).toS
  have hSf : S ∉ [it, l] := by simp only [List.mem_cons, List.not_mem_nil, or_false, not_or]; exact ⟨hSi, hSl⟩
  have hT : s.TypeIs (.ref it) "list_reverseiterator" := hit.typeIs
  have h1 : Builtin.List.listSameRef (.ref S) (.ref it) = false := by simp [Builtin.List.listSameRef, hSi]
  unfold Builtin.List.listExtendWith
  refine wpAny_bind (wpAny_typeOf hT ?_)
  rw [if_neg (by rw [h1]; decide)]
  refine wpAny_bind (wpAny_pyIter_revIter hit ?_)
  refine wpAny_bind (wpAny_holding ?_)
  unfold Builtin.List.listLengthHint
  refine wpAny_bind (wpAny_specialOf hT nolen_lri ?_)
  show wpAny _ A.in1 (specialOf (Value.ref it) (Str.ofString "__length_hint__") >>= _) _ _ _
  refine wpAny_bind (wpAny_specialOf hT hint_lri ?_)
  generalize hid : ("list_reverseiterator.__length_hint__" : String) = id0
  wp_delta
  rw [show splitId id0 = some ("list_reverseiterator", "__length_hint__") from by subst hid; decide +kernel]
  subst hid
  refine wpAny_bind (wpAny_isInstance (b := true) hT (by rw [isSubtype_type]; kernel_rfl) ?_)
  refine wpAny_pure ?_
  rw [if_neg (by decide)]
  have e0 : ((items.size : Nat) : Int) - 1 - ((0 : Nat) : Int) = (items.size : Int) - 1 := by omega
  refine wpAny_pure ⟨plainId_quiet F.plain_extend_loop _, codeAny_extend_loopS W hn _ hSf res items.size 0 _ _ _ rfl (Nat.zero_le _) ⟨Nat.zero_le _, by rw [e0]; exact hit, hl⟩ hS (ItemsOf.nil _) fun s' acc' c' hm hS' hacc => ?_⟩
  rw [Moved.eq_with hm]
  refine hR s'.heap s'.toks acc' c' (fun b o hb hb2 e => hm.heap b o (fun hmem => ?_) e) hS' hacc
  rcases List.mem_cons.mp hmem with e' | hmem
  · exact hb2 e'
  · exact hb (List.mem_singleton.mp hmem)
theorem list_init_rev {R : Result → Shared → Prop} {it l S : Addr} {items : Array Value} (hh : A.handled = none) (hit : s.heap.IsRevIter it l ((items.size : Int) - 1)) (hl : s.heap.IsList l items) (hne : l ≠ it) (hn : items.size ≤ sizeLine) (hSi : S ≠ it) (hSl : S ≠ l)
    (hS : s.heap.get? S = some { cls := .type "list", data := .seq #[] })
    (hR : ∀ (h' : Heap) (tk : Nat) (acc : Array Value) (c' : Nat), (∀ b o, b ≠ it → b ≠ S → s.heap.get? b = some o → h'.get? b = some o) → h'.get? S = some { cls := .type "list", dict := none, data := .seq acc c', slots := #[] } → ItemsOf (fun i v => items[items.size - 1 - i]? = some v) acc items.size → R (.ok (.ret .none)) { s with heap := h', toks := tk }) :
    wpAny (model prog w) A.in1 (Builtin.«list.__init__» ⟨[.ref S, .ref it], []⟩)
      (fun fin s' => match fin with | .done f => R (.ok f) s' | .again c' => c'.quiet = true ∧ codeAny (model prog w) A c' R s') (fun e s' => R (.error e) s') s := by
  show wpAny _ A.in1 (do let old ← Builtin.List.listItems (.ref S); Builtin.List.listUpdate (.ref S) (fun _ => #[]); letGo old.toList.reverse; Builtin.List.listExtendWith (.ref S) (.ref it) .none) _ _ s
  refine wpAny_bind ?_
  unfold Builtin.List.listItems
  refine wpAny_bind (wpAny_seqItems hS rfl (wpAny_pure ?_))
  show wpAny _ A.in1 (updateSeq S (fun _ => #[]) >>= fun _ => letGo (#[] : Array Value).toList.reverse >>= fun _ => Builtin.List.listExtendWith (.ref S) (.ref it) .none) _ _ s
  refine wpAny_bind (wpAny_updateSeq hS rfl ?_)
  have hS2 := Heap.get?_update_self (Obj.mapSeq (fun _ => (#[] : Array Value))) hS rfl
  have oth : ∀ b o, b ≠ S → s.heap.get? b = some o → (s.heap.update S (Obj.mapSeq (fun _ => (#[] : Array Value)))).get? b = some o :=
    fun b o hb e => (Heap.get?_update_other _ _ (Ne.symm hb)).trans e
  refine wpAny_bind (wpAny_letGo ?_)
  have hl2 : (s.heap.update S (Obj.mapSeq (fun _ => (#[] : Array Value)))).IsList l items := by
    obtain ⟨o, e, r⟩ := hl
    exact ⟨o, oth _ _ (Ne.symm hSl) e, r⟩
  refine extend_rev hh .none (hit.at fun o e => oth _ _ (Ne.symm hSi) e) hl2 hne hn hSi hSl hS2 fun h' tk acc' c' hk hS' hacc => ?_
  exact hR h' tk acc' c' (fun b o hb hb2 e => hk b o hb hb2 (oth b o hb2 e)) hS' hacc
theorem call_list_rev {it l : Addr} {items : Array Value} {Q : Value → Shared → Prop} (hh : A.handled = none) (hit : s.heap.IsRevIter it l ((items.size : Int) - 1)) (hl : s.heap.IsList l items) (hne : l ≠ it) (hn : items.size ≤ sizeLine)
    (hQ : ∀ (h' : Heap) (tk : Nat) (acc : Array Value) (c' : Nat), (∀ b o, b ≠ it → s.heap.get? b = some o → h'.get? b = some o) → h'.get? s.heap.objs.size = some { cls := .type "list", dict := none, data := .seq acc c', slots := #[] } → ItemsOf (fun i v => items[items.size - 1 - i]? = some v) acc items.size →
      Q (.ref s.heap.objs.size) { s with heap := h', toks := tk }) :
    wpAny (model prog w) A (call (.type "list") [.ref it]) Q E s := by
  obtain ⟨oi, hoi, _⟩ := id hit
  obtain ⟨ol, hol, _⟩ := id hl
  have hSi : s.heap.objs.size ≠ it := Nat.ne_of_gt (Heap.lt_size hoi)
  have hSl : s.heap.objs.size ≠ l := Nat.ne_of_gt (Heap.lt_size hol)
  refine callType_codes (Q₁ := fun obj s₁ => obj = .ref s.heap.objs.size ∧ s₁ = { s with heap := s.heap.push { cls := .type "list", data := .seq #[] } }) F.called_list (F.typeCall_list_1 _) F.entry_list_init
    (code_list_new _ ⟨rfl, rfl⟩) fun obj s₁ h₁ => ?_
  obtain ⟨rfl, rfl⟩ := h₁
  have hS : (s.heap.push { cls := .type "list", data := .seq #[] }).get? s.heap.objs.size = some { cls := .type "list", data := .seq #[] } := Heap.get?_push_size _ rfl
  refine ⟨⟨_, hS, rfl⟩, F.args_list_init_2 _ _, list_init_rev (A := A.in1) hh (hit.at fun o e => Heap.get?_push_of_some _ e) (hl.push _) hne hn hSi hSl hS fun h' tk acc' c' hk hS' hacc => ?_⟩
  exact ⟨rfl, hQ h' tk acc' c' (fun b o hb e => hk b o hb (Nat.ne_of_lt (Heap.lt_size e)) (Heap.get?_push_of_some _ e)) hS' hacc⟩
end
end HT
namespace Cm
open PySem PySem.Spec PyProof.Rows L2 RT
section
variable {X : Cx}
def rRevT (K : PySem.W.Frag) (x : V) (H : Hp) (Q : VK) : Prop := ∃ a xs, x = .ref a ∧ SqT K H a xs ∧ ∀ p, H p = none → Q (.ref p) (upd H p (.tup xs.reverse))
def tRevT (K : PySem.W.Frag) (te : TE) : TE := fun σ H Q => te σ H fun x H1 => rRevT K x H1 Q
theorem pe_revT {e : Expr} {te : TE} {k : Nat} {p1 p2 p3 pos : Pos} (he : PE X e te) : PE X (.Subscript e (.Slice none none (some (.UnaryOp .USub (.Constant (.int 1) k p1) p2)) p3) pos) (tRevT X.K te) := by
  refine ⟨fun pins s σ H Q I h => ?_⟩
  refine Subscript_ (thn (he.run pins s σ H _ I h) fun v s1 ⟨x, H1, I1, r1, q1⟩ => ?_)
  obtain ⟨a, xs, ex, hx, q⟩ := q1
  subst ex
  cases r1
  have hst : PO X (some (.UnaryOp .USub (.Constant (.int 1) k p1) p2)) (tPart (tUn (rU fun i => .int (-i)) (tC (.int 1)))) := po_some (pe_un un_neg pe_int)
  refine wpAny_Slice (thn (po_none.run pins s1 σ H1 (fun o H2 => o = none ∧ H2 = H1) I1 ⟨rfl, rfl⟩) fun vl s2 ⟨l, H2, I2, pl, el, e2⟩ => ?_)
  subst el e2
  refine thn (po_none.run pins s2 σ H2 (fun o H3 => o = none ∧ H3 = H2) I2 ⟨rfl, rfl⟩) fun vu s3 ⟨u, H3, I3, pu, eu, e3⟩ => ?_
  subst eu e3
  refine thn (hst.run pins s3 σ H3 (fun o H4 => o = some (-1) ∧ H4 = H3) I3 ⟨1, rfl, -1, rfl, rfl, rfl⟩) fun vs s4 ⟨o, H4, I4, ps, eo, e4⟩ => ?_
  subst eo e4
  have I5 : Inv X pins σ H4 { s4 with heap := s4.heap.push { cls := .type "slice", data := .fields #[vl, vu, vs] } } := I4.kept (t' := s4.toks) fun b ob q => Heap.get?_push_of_some _ q
  obtain ⟨its, r, ht, hz⟩ := I5.tuple hx
  have hlen := r.length
  cases pl
  cases pu
  show wpAny (model X.prog X.w) X.A (subscriptTail e (.Slice none none (some (.UnaryOp .USub (.Constant (.int 1) k p1) p2)) p3) (.ref a) (.ref s4.heap.objs.size)) (EP X pins σ Q) X.xe { s4 with heap := s4.heap.push { cls := .type "slice", data := .fields #[.none, .none, vs] } }
  refine tail_any (ops := [.ref a, .ref s4.heap.objs.size]) ht.typeIs (PyProof.Rows.slot_tuple_getitem.lookup) ?_ (by with_unfolding_all rfl)
  refine HT.getItem_tuple_rev ht (Heap.IsSliceOf.new _ .none .none vs) ps ?_ (by rw [List.size_toArray]; omega)
  refine ⟨.ref _, _, I5.laid (t' := s4.toks) (o := .tup xs.reverse) (fun b ob q => Heap.get?_push_of_some _ q) (Nat.le_refl _) ?_, rfl, q _ (I5.hok.fresh (Nat.le_refl _))⟩
  exact ⟨by rw [List.length_reverse]; exact hz, _, r.reverse, IsTup.new _ _⟩
end
instance {K : PySem.W.Frag} {σ : L2.St} {H : Hp} {Q : VK} {te : TE} : Stp (tRevT K te σ H Q) (te σ H fun x H1 => rRevT K x H1 Q) := ⟨id⟩
theorem k_revT {K : PySem.W.Frag} {H : Hp} {Q : VK} {a : Addr} {xs : List V} (hs : SqT K H a xs) (h : ∀ p H', H p = none → Same H H' → H' p = some (.tup xs.reverse) → Q (.ref p) H') : rRevT K (.ref a) H Q := ⟨a, xs, rfl, hs, fun p np => h p _ np (same_new np) upd_same⟩
/-! ### is, is not of truths -/
def xIsB : R2 := rIsB
def xNotB : R2 := rNotB
instance {a b : Bool} {H : Hp} {Q : VK} : Stp (xIsB (.bl a) (.bl b) H Q) (Q (.bl (decide (a = b))) H) := ⟨fun h => ⟨a, b, rfl, rfl, h⟩⟩
instance {a b : Bool} {H : Hp} {Q : VK} : Stp (xNotB (.bl a) (.bl b) H Q) (Q (.bl (!decide (a = b))) H) := ⟨fun h => ⟨a, b, rfl, rfl, h⟩⟩
/-! ### tuple(xs) of a list -/
def rTupOf (K : PySem.W.Frag) : List V → Hp → VK → Prop := fun xs H Q => ∃ p ys, xs = [.ref p] ∧ ((SqL K H p ys ∧ ∀ l, H l = none → Q (.ref l) (upd H l (.tup ys))) ∨ (SqT K H p ys ∧ Q (.ref p) H))
theorem q_tupOf {X : Cx} : CallR X (.type "tuple") (rTupOf X.K) := call_tuple_of
theorem k_tupOf {K : PySem.W.Frag} {H : Hp} {Q : VK} {p : Addr} {ys : List V} (hs : SqL K H p ys) (h : ∀ l H', H l = none → Same H H' → H' l = some (.tup ys) → Q (.ref l) H') : rTupOf K [.ref p] H Q := ⟨p, ys, rfl, .inl ⟨hs, fun l nl => h l _ nl (same_new nl) upd_same⟩⟩
/-! ### [d[k] for k in d] -/
theorem lc_vals {σ : L2.St} {H : Hp} {Q : VK} {p : Addr} {kvs : List (Key × V)} {i l : Nat} (hd : H p = some (.dK kvs)) (hv0 : (wipe σ [l])[i]? = some (some (.ref p)) ∧ σ[i]? = some (some (.ref p))) (hv : ∀ x : V, ((wipe σ [l]).set l (some x))[i]? = some (some (.ref p))) (hl : ∀ x : V, ((wipe σ [l]).set l (some x))[l]? = some (some x)) (hwp : ∀ x : V, wipe ((wipe σ [l]).set l (some x)) [l] = wipe σ [l])
    (hn : kvs.length ≤ 50000) (nd : ∀ kv ∈ kvs, valV kvs kv.1 = some kv.2) (h : ∀ D H', H D = none → Same H H' → H' D = some (.lst (kvs.map (·.2))) → Q (.ref D) H') :
    tLockE (tLc (iKeys (tVar i)) (gName l) tYes (tDGet (tVar i) (tVar l)) [l]) σ H Q := by
  refine ⟨p, .dK kvs, hd, trivial, fun od => ?_⟩
  refine ⟨_, hv0.2, p, od, rfl, .inl ⟨kvs, upd_same, fun D nD => ?_⟩⟩
  have Dp : D ≠ p := fun z => by rw [z, upd_same] at nD; cases nD
  have nD' : H D = none := by rw [upd_ne Dp] at nD; exact nD
  refine lc_it walk_keys (fun j H' => H' = upd (upd H p (.frz od (.dK kvs))) D (.lst ((kvs.take j).map (·.2)))) (by simp) (fun j H' _ e => by rw [e, upd_ne (fun z => Dp z.symm), upd_same]) ?_ ?_
  · rintro j x H1 H2 hj rfl ⟨rfl, k, v, hk, rfl⟩
    refine ⟨hwp _, ?_⟩
    refine k_yes (iteT ?_)
    refine ⟨_, hv _, _, hl _, p, v, rfl, .inl ⟨kvs, k, .inr ⟨od, by rw [upd_ne (fun z => Dp z.symm), upd_same]⟩, rfl, (nd _ (List.mem_of_getElem? hk)).symm⟩, _, upd_same, szl (by rw [List.length_map, List.length_take]; omega), ?_⟩
    rw [upd_upd, List.take_add_one, hk, List.map_append]
    rfl
  · rintro H1 rfl
    refine ⟨by rw [upd_ne (fun z => Dp z.symm), upd_same], ?_⟩
    refine h D _ nD' (fun b o hb => ?_) ?_
    · by_cases c : b = p
      · rw [c, upd_same, ← hd, ← c, hb]
      · have bD : b ≠ D := fun z => by rw [z, nD'] at hb; cases hb
        rw [upd_ne c, upd_ne bD, upd_ne c]; exact hb
    · rw [upd_ne Dp, upd_same, List.take_length]
/-! ### d.get(k) -/
def gD1N (a : Addr) (y : V) (H : Hp) (Q : VK) : Prop := ∃ o, DGet H a y o ∧ Q (o.getD .non) H
instance {σ : L2.St} {H : Hp} {Q : VK} {td ty : TE} : Stp (tDGet1 td ty σ H Q) (td σ H fun x H1 => aD x H1 fun a => ty σ H1 fun y H2 => gD1N a y H2 Q) := ⟨id⟩
theorem k_gD1N {H : Hp} {Q : VK} {p : Addr} {kvs : List (Key × V)} {t : Int} (e : H p = some (.dK kvs)) (h : Q ((valV kvs (.inl t)).getD .non) H) : gD1N p (.int t) H Q := ⟨_, DGet.k (k := .inl t) e, h⟩
/-! ### list(reversed(xs)) of a list -/
section
variable {X : Cx}
def rLRv (K : PySem.W.Frag) (x : V) (H : Hp) (Q : VK) : Prop := ∃ a xs, x = .ref a ∧ SqL K H a xs ∧ ∀ p, H p = none → Q (.ref p) (upd H p (.lst xs.reverse))
def tLRv (K : PySem.W.Frag) (te : TE) : TE := fun σ H Q => te σ H fun x H1 => rLRv K x H1 Q
theorem pe_lRv {e : Expr} {te : TE} {p p2 pos pos2 : Pos} (hc : X.calm = true) (hg : Gl X "list") (hm : X.mg "list" = none) (hg2 : Gl X "reversed") (hm2 : X.mg "reversed" = none) (he : PE X e te)
    (hs : starEach [e] X.env = (false, eval e X.env) :: starEach [] X.env := by rfl)
    (hs2 : starEach [.Call (.Name "reversed" p2) [e] [] pos2] X.env = (false, eval (.Call (.Name "reversed" p2) [e] [] pos2) X.env) :: starEach [] X.env := by rfl) :
    PE X (.Call (.Name "list" p) [.Call (.Name "reversed" p2) [e] [] pos2] [] pos) (tLRv X.K te) := by
  refine ⟨fun pins s σ H Q I h => ?_⟩
  refine Call_ (ld_blt I hg hm boot_list (PyProof.Rows.callWith_type1 (args_cons (Call_ (ld_blt I hg2 hm2 PyProof.Rows.boot_reversed (PyProof.Rows.callWith_type1 (args_cons (thn (he.run pins s σ H _ I h) fun u s1 ⟨v, H1, I1, r1, q1⟩ => args_nil ?_) hs) hs rfl))) hs2) hs2 rfl))
  obtain ⟨a, xs, ev, hq, q⟩ := q1
  subst ev
  obtain rfl : u = Value.ref a := r1
  obtain ⟨its, rv, p', hz⟩ := I1.list hq
  refine call_reversed_list p'.isList (args_nil ?_)
  have k0 : ∀ b o, s1.heap.get? b = some o → (s1.heap.push (revObj a ((its.toArray.size : Int) - 1))).get? b = some o := fun b o e => Heap.get?_push_of_some _ e
  have I2 : Inv X pins σ H1 { s1 with heap := s1.heap.push (revObj a ((its.toArray.size : Int) - 1)) } := I1.kept (t' := s1.toks) k0
  obtain ⟨f0, f1, f2, f3, f4, f5⟩ := I1.fpOk (H' := H1) (b := s1.heap.objs.size) (Nat.le_refl _) (I1.hok.fresh (Nat.le_refl _))
  have hl := p'.isList
  obtain ⟨ol, hol, _⟩ := id hl
  have hne : a ≠ s1.heap.objs.size := Nat.ne_of_lt (Heap.lt_size hol)
  have hn : its.toArray.size ≤ sizeLine := by rw [List.size_toArray, ← rv.length]; exact hz
  refine HT.call_list_rev (s := { s1 with heap := s1.heap.push (revObj a ((its.toArray.size : Int) - 1)) }) (I1.ok.hd hc) ⟨_, Heap.get?_push_size _ rfl, rfl, rfl⟩ (hl.push _) hne hn fun h' tk acc c' hk hS' hi => ?_
  refine ⟨.ref _, upd H1 _ (.lst xs.reverse), I2.turnedNew (t' := tk) (ch := [s1.heap.objs.size]) (fun b o hb e => hk b o (fun z => hb (by rw [z]; exact List.mem_singleton.mpr rfl)) e) (fun b hb => by rw [List.mem_singleton.mp hb]; exact ⟨f0, f1, f2, f3, f4, f5⟩) (Nat.le_refl _) (show ObjOk X.prog X.w _ _ _ (.lst xs.reverse) from ⟨by rw [List.length_reverse]; exact hz, acc.toList, c', vals_rev rv hi, by rw [Array.toArray_toList]; exact hS'⟩), rfl, q _ (I2.hok.fresh (Nat.le_refl _))⟩
instance {K : PySem.W.Frag} {σ : L2.St} {H : Hp} {Q : VK} {te : TE} : Stp (tLRv K te σ H Q) (te σ H fun x H1 => rLRv K x H1 Q) := ⟨id⟩
theorem k_lRv {K : PySem.W.Frag} {H : Hp} {Q : VK} {a : Addr} {xs : List V} (hs : SqL K H a xs) (h : ∀ p H', H p = none → Same H H' → H' p = some (.lst xs.reverse) → Q (.ref p) H') : rLRv K (.ref a) H Q := ⟨a, xs, rfl, hs, fun p np => h p _ np (same_new np) upd_same⟩
end
/-! ### xs + ys of any two lists -/
section
variable {X : Cx}
def rCatS (K : PySem.W.Frag) : R2 := fun x y H Q => ∃ l b xs zs, x = .ref l ∧ y = .ref b ∧ SqL K H l xs ∧ SqL K H b zs ∧ xs.length + zs.length ≤ sizeLine ∧ ∀ p, H p = none → Q (.ref p) (upd H p (.lst (xs ++ zs)))
theorem op_catS : OpR X (binaryOp .Add) (rCatS X.K) := by
  intro pins s σ H x y v u Q I rx ry h
  obtain ⟨l, b, xs, zs, rfl, rfl, hH, hB, hz, q⟩ := h
  cases rx
  cases ry
  obtain ⟨its, r, p1, _⟩ := I.list hH
  obtain ⟨its2, r2, p2, _⟩ := I.list hB
  have l1 := r.length
  have l2 := r2.length
  obtain ⟨⟨cls, dd, data, sl⟩, ho, hc, n, hd⟩ := p1.isList
  obtain ⟨⟨cls2, dd2, data2, sl2⟩, ho2, hc2, n2, hd2⟩ := p2.isList
  simp only at hc hd hc2 hd2
  subst hc hd hc2 hd2
  have e : its.toArray ++ its2.toArray = (its ++ its2).toArray := by simp
  refine concat_meets ⟨_, ho, rfl⟩ ⟨_, ho2, rfl⟩ noFill_list_add seq_list_add PySem.F.slot_list_add PySem.F.entry_list_add (PySem.F.args_list_add_2 _ _) (list_addW l b its.toArray its2.toArray n n2 dd dd2 sl sl2 (by simp only [List.size_toArray]; omega)) ⟨ho, ho2, ?_⟩
  rw [e]
  exact ⟨.ref _, _, I.lnew (t' := s.toks) (r.append r2) (by rw [List.length_append]; exact hz), rfl, q _ I.fresh⟩
theorem k_catS {K : PySem.W.Frag} {H : Hp} {Q : VK} {l b : Addr} {xs zs : List V} (hl : SqL K H l xs) (hb : SqL K H b zs) (hz : xs.length + zs.length ≤ 100000) (h : ∀ p H', H p = none → Same H H' → H' p = some (.lst (xs ++ zs)) → Q (.ref p) H') : rCatS K (.ref l) (.ref b) H Q := ⟨l, b, xs, zs, rfl, rfl, hl, hb, sz hz, fun p np => h p _ np (same_new np) upd_same⟩
end
/-! ### xs.count(k) of a list of tuples and whole numbers -/
def isK (k : Int) : V → Bool
  | .int i => decide (i = k)
  | _ => false
def isKU (k : Int) : Value → Bool
  | .int i _ => decide (i = k)
  | _ => false
theorem isK_rel {k : Int} {v : V} {u : Value} (r : RelV v u) (h : (∃ p, v = .ref p) ∨ ∃ i, v = .int i) : isKU k u = isK k v := by
  rcases h with ⟨p, rfl⟩ | ⟨i, rfl⟩
  · cases r; rfl
  · obtain ⟨t, rfl⟩ := r; rfl
theorem isK_cnt {k : Int} : ∀ {vs : List V} {us : List Value}, Vals vs us → (∀ v ∈ vs, (∃ p, v = .ref p) ∨ ∃ i, v = .int i) → us.countP (isKU k) = vs.countP (isK k)
  | _, _, .nil, _ => rfl
  | v :: vs, u :: us, .cons r rs, h => by
    rw [List.countP_cons, List.countP_cons, isK_rel r (h v List.mem_cons_self), isK_cnt rs fun x hx => h x (List.mem_cons_of_mem _ hx)]
def rCntD (K : PySem.W.Frag) : V → List V → Hp → VK → Prop := fun x xs H Q => ∃ (a : Addr) (ys : List V) (ds : List PyData) (k : Int), x = V.ref a ∧ xs = [.int k] ∧ SqL K H a ys ∧ DpAll K H ys ds ∧ PyData.canLayAll0 ds = true ∧ (∀ d ∈ ds, (∃ es, d = .tuple es) ∨ ∃ i, d = .int i) ∧ Q (.int (ys.countP (isK k) : Nat)) H
theorem lay_mem : ∀ {ds : List PyData}, PyData.canLayAll0 ds = true → ∀ d ∈ ds, d.canLay0 = true
  | [], _, d, h => by cases h
  | a :: r, h, d, hd => by
    have h' : (a.canLay0 && PyData.canLayAll0 r) = true := h
    rw [Bool.and_eq_true] at h'
    rcases List.mem_cons.mp hd with rfl | hd
    · exact h'.1
    · exact lay_mem h'.2 d hd
theorem vals_data {K : PySem.W.Frag} {H : Hp} : ∀ {vs : List V} {us : List Value} {ds : List PyData}, Vals vs us → DpAll K H vs ds → ∀ u ∈ us, ∃ v d, RelV v u ∧ Dp K H v d ∧ d ∈ ds
  | _, _, _, .nil, _, u, hu => by cases hu
  | _, _, _, .cons r rs, .cons h hs, u, hu => by
    rcases List.mem_cons.mp hu with rfl | hu
    · exact ⟨_, _, r, h, List.mem_cons_self⟩
    · obtain ⟨v, d, h1, h2, h3⟩ := vals_data rs hs u hu
      exact ⟨v, d, h1, h2, List.mem_cons_of_mem _ h3⟩
theorem data_kind {K : PySem.W.Frag} {H : Hp} {v : V} {d : PyData} (h : Dp K H v d) (k : (∃ es, d = .tuple es) ∨ ∃ i, d = .int i) : (∃ p, v = .ref p) ∨ ∃ i, v = .int i := by
  rcases k with ⟨es, rfl⟩ | ⟨i, rfl⟩
  · obtain ⟨a, _, e, _⟩ := dp_tup h; exact .inl ⟨a, e⟩
  · exact .inr ⟨i, dp_int h⟩
theorem mt_lcountD {X : Cx} (hu : X.A.units + 64 < cLine) : MtR X "list.count" (rCntD X.K) := by
  intro pins s σ H x xs v us Q I rx rxs h
  obtain ⟨a, ys, ds, k, rfl, rfl, hs, dys, lay, kd, q⟩ := h
  cases rx
  cases rxs with
  | cons ry rt =>
    rename_i uy ut
    cases rt
    obtain ⟨t, rfl⟩ := ry
    obtain ⟨its, rv, ⟨⟨cls, dd, data, sl⟩, n, ho, hc, hdn, hd⟩, hlen⟩ := I.list hs
    simp only at hc hd
    subst hc hd
    refine call_meets PySem.F.slot_list_count ⟨_, ho, rfl⟩ PySem.F.entry_list_count (PySem.F.args_list_count_2 _ _)
      (SeqAt.list_countAt a its.toArray n dd sl (.int k t) (isKU k)) ⟨ho, fun u' hu' => ?_, ?_⟩
    · obtain ⟨w, d, r1, r2, r3⟩ := vals_data rv dys u' (by simpa using hu')
      obtain ⟨as, rd⟩ := Dp.reads I d w u' r2 r1
      have eq := SeqAt.eqAt_reads d (.int k) X.A.in1 s u' (.int k t) as _ rd (Reads.int k t) (lay_mem lay d r3) rfl (by
        have : min d.depth (PyData.int k).depth ≤ 0 := Nat.min_le_right _ _
        have e : X.A.in1.units = X.A.units + 1 := rfl
        rw [e]; omega)
      have e : PyData.eqv d (.int k) = isKU k u' := by
        rw [isK_rel r1 (data_kind r2 (kd d r3))]
        rcases kd d r3 with ⟨es, rfl⟩ | ⟨i, rfl⟩
        · obtain ⟨p, _, rfl, _⟩ := dp_tup r2; rfl
        · cases dp_int r2
          show (i == k) = decide (i = k)
          by_cases c : i = k
          · rw [c, decide_eq_true rfl]; simp
          · rw [decide_eq_false c]; simpa using c
      rw [e] at eq
      exact eq
    · have ec : its.toArray.toList.countP (isKU k) = ys.countP (isK k) := isK_cnt rv fun v hv => by
        obtain ⟨i, hi, e⟩ := List.mem_iff_getElem.mp hv
        obtain ⟨d, hd, dd⟩ := dpa_get dys (show ys[i]? = some v by rw [List.getElem?_eq_getElem hi, e])
        exact data_kind dd (kd d (List.mem_of_getElem? hd))
      refine ⟨.int (ys.countP (isK k) : Nat), H, I.tok _, ⟨s.toks, ?_⟩, q⟩
      show Value.int ((its.toArray.toList.countP (isKU k) : Nat) : Int) s.toks = Value.int ((ys.countP (isK k) : Nat) : Int) s.toks
      rw [ec]
end Cm
namespace HT
open PySem PySem.Spec PyProof.Rows L2
/-! ### a set of whole numbers made of a list, its table in order -/
/-- the set at S holds just the first i numbers -/
def Grown (w : World) (val : Nat → Int) (S : Addr) (i : Nat) (h : Heap) : Prop := SetR w h S (fun k => (firstMet val i).any (· == k)) (firstMet val i).length
section
variable {prog : Program} {w : World} {A : Around} {E : Value → Shared → Prop} {s : Shared}
theorem Grown.next {val : Nat → Int} {S : Addr} {i : Nat} {tk : Tok} {Q : Bool → Shared → Prop} (g : Grown w val S i s.heap) (room : i + 1 < scanBound) (h : ∀ b h', Heap.SameBut S s.heap h' → Grown w val S (i + 1) h' → Q b { s with heap := h' }) :
    wpAny (model prog w) A (setAddHashed S (.int (val i) tk) ((intKind prog w).hash (val i))) Q E s :=
  setR_add_hashed g (Nat.lt_of_le_of_lt (Nat.add_le_add_right (firstMet_length_le val i) 1) room) fun h' sb r => h _ h' sb (by
    unfold Grown
    rw [firstMet_succ, step_length]
    exact r.congr fun k => step_any _ _ k)
theorem grow_all {I : Addr} {fp wr : List Addr} {G : Array GenState → Array GenState → Prop} {n : Nat} {P : Nat → Value → Prop} {St : Nat → Shared → Prop} {R : Result → Shared → Prop} {S : Addr} {val : Nat → Int} {s0 : Shared}
    (W : WalksS prog w A.in1 I fp wr G n P St) (out : S ∉ fp) (hin : ∀ i v, P i v → ∃ t, v = .int (val i) t) (room : n + 1 < scanBound)
    (fin : ∀ z, Moved (S :: wr) G s0 z → Grown w val S n z.heap → R (.ok (.ret .none)) z) :
    ∀ (left i : Nat) (z : Shared), i + left = n → St i z → Moved (S :: wr) G s0 z → Grown w val S i z.heap → codeAny (model prog w) A (.builtin "set.update.loop" ⟨[.ref S, .ref I], []⟩) R z := by
  have away : S ∉ wr := fun y => out (W.sub _ y)
  have wider : ∀ b ∈ wr, b ∈ S :: wr := fun _ y => List.mem_cons_of_mem _ y
  intro left
  induction left with
  | zero =>
    rintro i z e st mv g
    obtain rfl : i = n := e
    refine codeAny_builtin F.entry_set_update_loop ?_
    rw [Around.under_plainId F.plain_set_update_loop _]
    exact wpAny_bind (W.done z _ _ st fun z' m => wpAny_pure (fin z' (Moved.trans W.gtrans mv (m.mono wider)) (g.at fun o y => m.heap S _ away y)))
  | succ left ih =>
    rintro i z e st mv g
    refine codeAny_builtin F.entry_set_update_loop ?_
    rw [Around.under_plainId F.plain_set_update_loop _]
    refine wpAny_bind (W.item i z _ _ (by omega) st fun v z' pv st' m => ?_)
    obtain ⟨t, rfl⟩ := hin i v pv
    have g' : Grown w val S i z'.heap := g.at fun o y => m.heap S _ away y
    refine wpAny_bind (wpAny_holding (m := setAdd S (.int (val i) t)) ?_)
    unfold setAdd
    refine wpAny_holding (wpAny_bind ((intKind prog w).pyHash (k := val i) (intKind_is _ _ _ _) ?_))
    refine Grown.next (s := { z' with toks := z'.toks + 1 }) g' (by omega) fun _ h' sb g2 => ?_
    have keep : ∀ b o, b ≠ S → z'.heap.get? b = some o → h'.get? b = some o := fun b o hb y => by rw [sb.2 b hb]; exact y
    refine wpAny_pure ⟨plainId_quiet F.plain_set_update_loop _, ih (i + 1) _ (by omega) (W.frame _ z' _ _ st' (Nat.le_succ _) fun b hb o y => keep b o (fun c => out (c ▸ hb)) y) ?_ g2⟩
    exact Moved.trans W.gtrans mv ((m.mono wider).then_heap (Nat.le_succ _) fun b o hb y => keep b o (fun c => hb (c ▸ List.mem_cons_self)) y)
/-- the new set, before anything is in it -/
def bareSet (w : World) : Obj := { cls := .type "set", dict := none, data := .set #[] 0 (.fresh 0 0 (!w.params.followText "set-order")) }
theorem new_bare (x : Value) {Q : Value → Shared → Prop} (h : Q (.ref s.heap.objs.size) { s with heap := s.heap.push (bareSet w) }) :
    codeAny (model prog w) A (.call (.builtin "set.__new__") ⟨[.type "set", x], []⟩) (wants Q E) s := by
  refine codeAny_of_tree ?_
  show wpAny _ A.in1 (checkBuiltinCall "set.__new__" ⟨[.type "set", x], []⟩ >>= fun _ => again (.builtin "set.__new__" ⟨[.type "set", x], []⟩)) _ _ s
  refine wpAny_bind (wpAny_of_eq (F.newCall_set_1 x) (wpAny_pure ⟨plainId_quiet F.plain_set_new _, codeAny_builtin F.entry_set_new ?_⟩))
  rw [Around.under_plainId F.plain_set_new _]
  have sub := sub_set_self
  unfold Builtin.«set.__new__» Builtin.Frozenset.newClass
  obtain ⟨hp, g, d, tk, os⟩ := s
  dsimp only
  wp_walk
  exact wpAny_askSetting (wpAny_pure (by dsimp only; simp only [newObj]; exact wpAny_bind (wpAny_alloc (wpAny_pure (wpAny_pure h)))))
/-- set.__init__ of a bare set and a list of whole numbers -/
theorem init_bare {l : Addr} {items : Array Value} {ns : List Int} {R : Result → Shared → Prop} {S : Addr} (hh : A.handled = none) (hS : s.heap.get? S = some (bareSet w)) (hl : s.heap.IsList l items) (hi : IntsAre items.toList ns) (room : items.size + 1 < scanBound)
    (fin : ∀ (h' : Heap) (tk : Nat), Grown w (fun i => ns.getD i 0) S items.size h' → (∀ b o, b ≠ S → s.heap.get? b = some o → h'.get? b = some o) → R (.ok (.ret .none)) { s with heap := h', toks := tk }) :
    wpAny (model prog w) A.in1 (Builtin.«set.__init__» ⟨[.ref S, .ref l], []⟩)
      (fun f s' => match f with | .done f => R (.ok f) s' | .again c => c.quiet = true ∧ codeAny (model prog w) A c R s') (fun e s' => R (.error e) s') s := by
  obtain ⟨⟨cl, dc, dt, so⟩, hol, hcl, nl, hdl⟩ := id hl
  simp only at hcl hdl
  subst hcl hdl
  have noSet := F.sub_list_set
  have noFrozen := F.sub_list_frozenset
  have noDict : (Value.type "list" == Value.type "dict") = false := by decide
  unfold bareSet at hS
  unfold Builtin.«set.__init__» noKeywords Builtin.Frozenset.updateFrom
  generalize eI : pyIter = walkIt
  wp_walk
  subst eI
  refine wpAny_pyIter_list hl ?_
  refine wpAny_bind (wpAny_runValue ?_)
  have lt1 : l < s.heap.objs.size := Heap.lt_size hol
  have ltS : S < s.heap.objs.size := Heap.lt_size hS
  have neS : l ≠ S := fun z => by
    rw [z, hS] at hol
    simp at hol
  have old : ∀ b o, s.heap.get? b = some o → (s.heap.push { cls := .type "list_iterator", data := .fields #[.ref l, .int 0 0] }).get? b = some o := fun b o y => Heap.get?_push_of_some _ y
  refine grow_all (s0 := { s with heap := s.heap.push { cls := .type "list_iterator", data := .fields #[.ref l, .int 0 0] } }) (val := fun i => ns.getD i 0) ((Walks.list (prog := prog) (w := w) (A := A.in1.in1) hh s.heap.objs.size l (Nat.ne_of_lt lt1) items).toS) ?_ (fun i v y => IntsAre.int_at hi i v (by rw [Array.getElem?_toList]; exact y)) room (fun z m g => ?_) items.size 0 _ (by omega) ⟨⟨_, Heap.get?_push_size _ rfl, rfl, rfl⟩, hl.push _⟩ (Moved.refl fun _ => rfl) ?_
  · simp only [List.mem_cons, List.not_mem_nil, or_false, not_or]
    exact ⟨Nat.ne_of_lt ltS, fun z => neS z.symm⟩
  · have ez := Moved.eq_with m
    rw [ez]
    refine wpAny_pure ?_
    show wpAny _ _ (ret Value.none) _ _ _
    refine wpAny_pure (fin z.heap z.toks g fun b o hb y => m.heap b o (fun hm => ?_) (old b o y))
    rcases List.mem_cons.mp hm with hm | hm
    · exact hb hm
    · have e : b = s.heap.objs.size := by simpa using hm
      exact Nat.lt_irrefl _ (e ▸ Heap.lt_size y)
  · have g0 : SetR w (s.heap.push { cls := .type "list_iterator", data := .fields #[.ref l, .int 0 0] }) S (fun _ => false) 0 :=
      ⟨_, #[], 0, _, old _ _ hS, ⟨rfl, rfl, rfl⟩, rfl, (fun e he => by simp at he), (by simp), (fun k => by simp), (by decide), (by rfl), rfl, List.Pairwise.nil, by
        show _ ∨ (!w.params.followText "set-order") = true
        cases w.params.followText "set-order"
        · exact .inr rfl
        · exact .inl rfl⟩
    exact g0
/-- set(xs) of whole numbers, with what sorted needs -/
theorem set_of_ints {l : Addr} {items : Array Value} {ns : List Int} {Q : Value → Shared → Prop} (hh : A.handled = none) (hl : s.heap.IsList l items) (hi : IntsAre items.toList ns) (room : items.size + 1 < scanBound)
    (fin : ∀ (h' : Heap) (tk : Nat), Grown w (fun i => ns.getD i 0) s.heap.objs.size items.size h' → (∀ b o, s.heap.get? b = some o → h'.get? b = some o) → Q (.ref s.heap.objs.size) { s with heap := h', toks := tk }) :
    wpAny (model prog w) A (call (.type "set") [.ref l]) Q E s := by
  have T := F.called_set
  obtain ⟨c, tl, mro⟩ := T.mro
  have made := T.made
  have sub := T.sub
  have known := T.init.lookup
  have nt := T.notType
  have cc := T.canCreate
  have tc := F.typeCall_set_1 (.ref l)
  refine wpAny_call (codeAny_of_tree ?_)
  show wpAny _ _ (callAny (.type "set") _) _ _ _
  refine wpAny_pure ⟨Code.quiet_builtin _ (by decide +kernel), codeAny_builtin F.entry_type_call ?_⟩
  rw [Around.under_plain (weight_type_call_type "set" [.ref l] []) rfl]
  repeat (any_goals (first | assumption | wp_step))
  refine codeAny_mono (new_bare (w := w) (.ref l) (E := E) (Q := fun v z => v = .ref s.heap.objs.size ∧ z = { s with heap := s.heap.push (bareSet w) }) ⟨rfl, rfl⟩) fun r z hr => ?_
  cases r with
  | error e => exact hr
  | ok f =>
    cases f with
    | ret v =>
      obtain ⟨rfl, rfl⟩ := hr
      have hS : (s.heap.push (bareSet w)).get? s.heap.objs.size = some (bareSet w) := Heap.get?_push_size _ rfl
      have bind := T.init.bind (.ref s.heap.objs.size)
      have sub2 : isSubtype (bareSet w).cls (Value.type "set") = pure true := sub
      have known2 := known
      have ty : Shared.TypeIs { s with heap := s.heap.push (bareSet w) } (.ref s.heap.objs.size) "set" := ⟨_, hS, rfl⟩
      repeat (any_goals (first | assumption | wp_step))
      refine codeAny_mono (codeAny_call_builtin (R := wants (fun r z => r = .none ∧ ∃ h' tk, z = { s with heap := h', toks := tk } ∧ Grown w (fun i => ns.getD i 0) s.heap.objs.size items.size h' ∧ ∀ b o, s.heap.get? b = some o → h'.get? b = some o) E) T.init.plain F.entry_set_init (check_set_init_1 ty ?_)) fun r2 z2 h2 => ?_
      · refine init_bare (s := { s with heap := s.heap.push (bareSet w) }) (R := _) (S := s.heap.objs.size) (by simp [hh]) hS (hl.push _) hi room fun h' tk g k => ⟨rfl, h', tk, rfl, g, fun b o y => k b o (Nat.ne_of_lt (Heap.lt_size y)) (Heap.get?_push_of_some _ y)⟩
      · cases r2 with
        | error e => exact h2
        | ok f2 =>
          cases f2 with
          | ret v2 =>
            obtain ⟨rfl, h', tk, rfl, g, k⟩ := h2
            repeat (any_goals (first | assumption | wp_step))
            exact fin h' tk g k
          | _ => exact h2.elim
    | _ => exact hr.elim
end
end HT
namespace Cm
open PySem PySem.Spec PyProof.Rows L2
/-! ### sorted(set(xs)) of whole numbers -/
def rSrtU (K : PySem.W.Frag) (x : V) (H1 : Hp) (Q : VK) : Prop := ∃ (l : Addr) (ns : List Int), x = .ref l ∧ SqL K H1 l (ns.map V.int) ∧ (ns.length ≤ 1000 ∧ unl ns ≤ 60) ∧ ∀ (ms : List Int) (p : Addr), ms.Pairwise (· < ·) → (∀ k, k ∈ ms ↔ k ∈ ns) → H1 p = none → Q (.ref p) (upd H1 p (.lst (ms.map V.int)))
def tSrtU (K : PySem.W.Frag) (ta : TE) : TE := fun σ H Q => ta σ H fun x H1 => rSrtU K x H1 Q
theorem met_mem {ns : List Int} (k : Int) : (PyProof.Rows.firstMet (fun i => ns.getD i 0) ns.length).any (· == k) = true ↔ k ∈ ns := by
  rw [firstMet_any]
  have e : (List.range ns.length).map (fun i => ns.getD i 0) = ns := by
    refine List.ext_getElem? fun i => ?_
    rw [List.getElem?_map]
    by_cases c : i < ns.length
    · rw [List.getElem?_range c, List.getElem?_eq_getElem c]
      simp [List.getD_eq_getElem?_getD, c]
    · rw [List.getElem?_eq_none (by simpa using c), List.getElem?_eq_none (by simpa using c)]; rfl
  rw [e, List.any_eq_true]
  constructor
  · rintro ⟨x, hx, h⟩; rw [← eq_of_beq h]; exact hx
  · intro h; exact ⟨k, h, beq_self_eq_true k⟩
theorem pe_srtU {X : Cx} {a : Expr} {ta : TE} {p p2 q pos : Pos} (cm : X.calm = true) (gl : Gl X "sorted") (ml : X.mg "sorted" = none) (gs : Gl X "set") (ms : X.mg "set" = none) (pa : PE X a ta)
    (se : starEach [a] X.env = (false, eval a X.env) :: starEach [] X.env := by rfl) : PE X (.Call (.Name "sorted" p) [.Call (.Name "set" p2) [a] [] q] [] pos) (tSrtU X.K ta) := by
  constructor
  intro pins s σ H Q I h
  refine Call_ (ld_blt I gl ml boot_sorted (PyProof.Rows.callWith_builtin1 (PyProof.Rows.args_cons ?_ rfl) rfl rfl))
  refine Call_ (ld_blt I gs ms boot_set (PyProof.Rows.callWith_type1 (PyProof.Rows.args_cons (thn (pa.run pins s σ H _ I h) fun v s1 ⟨x, H1, J, rx, qx⟩ => PyProof.Rows.args_nil ?_) se) se rfl))
  obtain ⟨l, ns, rfl, hq, ⟨hl, few⟩, qx⟩ := qx
  cases rx
  obtain ⟨its, rv, pl, hz⟩ := J.list hq
  have size : its.toArray.size = ns.length := by rw [List.size_toArray, ← rv.length, List.length_map]
  unfold unl at few
  refine HT.set_of_ints (J.ok.hd cm) pl.isList (by simpa using RZ.intsAre_vals rv) (by rw [size]; unfold scanBound; omega) fun h' tk g k => PyProof.Rows.args_nil ?_
  rw [size] at g
  have J2 : Inv X pins σ H1 { s1 with heap := h', toks := tk } := J.kept k
  have g2 : SetR X.w ({ s1 with heap := h', toks := tk } : Shared).heap s1.heap.objs.size _ _ := g
  generalize s1.heap.objs.size = sa at g2 ⊢
  generalize ({ s1 with heap := h', toks := tk } : Shared) = s2 at J2 g2 ⊢
  refine sorted_set g2 (J2.ok.hd cm) (by omega) fun s3 p out c ms keep gens os hp hg hin hs hm len => ?_
  have fresh : H1 p = none := J2.hok.fresh hp
  have es : s3 = { s2 with heap := s3.heap, gens := s3.gens, drawn := s3.drawn, toks := s3.toks } := by
    cases s3
    cases s2
    cases os
    rfl
  rw [es]
  have line : (ms.map V.int).length ≤ sizeLine := by
    rw [List.length_map, len]
    exact sz (by omega)
  have J3 : Inv X pins σ (upd H1 p (.lst (ms.map V.int))) { s2 with heap := s3.heap, gens := s3.gens, drawn := s3.drawn, toks := s3.toks } :=
    J2.call (ch := []) (Un.laid keep hp fresh) (J2.hok.laid keep hp ⟨line, out.toList, c, vals_of_ints hin, hg⟩) (by rw [gens]; exact J2.bare) (fun _ z => nomatch z)
  exact ⟨.ref p, _, J3, rfl, qx ms p hs (fun k => (hm k).trans (met_mem k)) fresh⟩
instance {K : PySem.W.Frag} {σ : L2.St} {H : Hp} {Q : VK} {te : TE} : Stp (tSrtU K te σ H Q) (te σ H fun x H1 => rSrtU K x H1 Q) := ⟨id⟩
theorem k_srtU {K : PySem.W.Frag} {H : Hp} {Q : VK} {l : Addr} {ns : List Int} (hs : SqL K H l (ns.map V.int)) (hl : ns.length ≤ 1000) (hu : unl ns ≤ 60) (h : ∀ (ms : List Int) (p : Addr) H', ms.Pairwise (· < ·) → (∀ k, k ∈ ms ↔ k ∈ ns) → H p = none → Same H H' → H' p = some (.lst (ms.map V.int)) → Q (.ref p) H') : rSrtU K (.ref l) H Q := ⟨l, ns, rfl, hs, ⟨hl, hu⟩, fun ms p a b c => h ms p _ a b c (same_new c) upd_same⟩
end Cm
namespace Cm
open PySem PySem.Spec PyProof.Rows L2
/-! ### x (not) in range(..) -/
theorem rg_has (o : Addr) (p q st x : Int) (k1 k2 k3 k4 : Tok) :
    Meets (Builtin.«range.__contains__» ⟨[.ref o, .int x k4], []⟩) (fun _ W z => z.heap.get? o = some { cls := .type "range", data := .fields #[.int p k1, .int q k2, .int st k3], dict := none, slots := #[] } ∧ W (.ok (.ret (.bool (Builtin.Range.rangePlace? p q st x).isSome))) z) :=
  .of_wp fun prog w A W z hz => by
    obtain ⟨hp, gg, dd, kk, ss⟩ := z
    obtain ⟨there, hz⟩ := hz
    wp_walk
    exact ⟨_, rfl, hz⟩
def RgV (vs : List V) (a b c : Int) : Prop := (vs = [.int b] ∧ a = 0 ∧ c = 1) ∨ (vs = [.int a, .int b, .int c] ∧ 0 < c ∧ c < 1073741824)
def inRgB (neg : Bool) (a b c i : Int) : Bool := if neg then !(Builtin.Range.rangePlace? a b c i).isSome else (Builtin.Range.rangePlace? a b c i).isSome
def tInRg (neg : Bool) (ta : TE) (tA : TA) : TE := fun σ H Q => ta σ H fun x H1 => tA σ H1 fun vs H2 => ∃ i a b c, x = .int i ∧ RgV vs a b c ∧ Q (.bl (inRgB neg a b c i)) H2
def rgOp : Bool → CmpOp
  | true => .NotIn
  | false => .In
theorem cmp_rg {X : Cx} {neg : Bool} {pins : List (Addr × Obj)} {s : Shared} {σ : L2.St} {H : Hp} {Q : VK} {o : Addr} {p q st x : Int} {k1 k2 k3 k4 : Tok} (J : Inv X pins σ H s) (ho : s.heap.get? o = some { cls := .type "range", data := .fields #[.int p k1, .int q k2, .int st k3] })
    (h : Q (.bl (inRgB neg p q st x)) H) : wpAny (model X.prog X.w) X.A (compareOp (rgOp neg) (.int x k4) (.ref o)) (EP X pins σ Q) X.xe s := by
  have go : ∀ {R : Bool → Shared → Prop}, R (Builtin.Range.rangePlace? p q st x).isSome s → wpAny (model X.prog X.w) X.A (contains (Value.ref o) (Value.int x k4)) R X.xe s := fun h =>
    wpAny_contains_slot (T := "range") ⟨_, ho, rfl⟩ F.slot_range_contains (call_meets F.slot_range_contains ⟨_, ho, rfl⟩ F.entry_range_contains (F.args_range_contains_2 _ _) (rg_has o p q st x k1 k2 k3 k4) ⟨ho, wpAny_truthy_bool h⟩)
  cases neg with
  | false =>
    show wpAny _ _ (do return Value.bool (← contains (Value.ref o) (Value.int x k4))) _ _ s
    exact wpAny_bind (go (wpAny_pure ⟨.bl _, H, J, rfl, h⟩))
  | true =>
    show wpAny _ _ (do return Value.bool (!(← contains (Value.ref o) (Value.int x k4)))) _ _ s
    exact wpAny_bind (go (wpAny_pure ⟨.bl _, H, J, rfl, h⟩))
theorem pc_inRg {X : Cx} {neg : Bool} {a b : Expr} {rest : List Expr} {ta : TE} {tA : TA} {p pos : Pos} (hg : Gl X "range") (hm : X.mg "range" = none) (pa : PE X a ta) (pA : PA X (b :: rest) tA)
    (he : starEach (b :: rest) X.env = (false, eval b X.env) :: starEach rest X.env) (hpl : (backTo pos (starEach rest X.env)).any (·.1) = false) : PC X (rgOp neg) a (.Call (.Name "range" p) (b :: rest) [] pos) (tInRg neg ta tA) := by
  refine ⟨fun pins s σ H Q I h => ?_⟩
  refine thn (pa.run pins s σ H _ I h) fun v s1 ⟨x, H1, I1, rx, q1⟩ => ?_
  refine Call_ (ld_blt I1 hg hm boot_range (PyProof.Rows.callWith_type1 (thn (pA.run pos pins s1 σ H1 _ I1 q1) fun us s2 ⟨vs, H2, I2, rs, q2⟩ => ?_) he hpl))
  obtain ⟨i, lo, hi, st, rfl, hv, q⟩ := q2
  obtain ⟨k, rfl⟩ := rx
  rcases hv with ⟨rfl, rfl, rfl⟩ | ⟨rfl, c0, c1⟩
  · cases rs with | cons r1 rr =>
    cases rr
    obtain ⟨t1, rfl⟩ := r1
    refine call_range_1 ?_
    exact cmp_rg (I2.kept fun b o e => Heap.get?_push_of_some _ e) (Heap.get?_push_size _ rfl) q
  · cases rs with | cons r1 rr =>
    cases rr with | cons r2 rr =>
    cases rr with | cons r3 rr =>
    cases rr
    obtain ⟨t1, rfl⟩ := r1
    obtain ⟨t2, rfl⟩ := r2
    obtain ⟨t3, rfl⟩ := r3
    refine call_range_3 (by omega) ?_ (.inl (PyProof.noPylong_small (by omega)))
    exact cmp_rg (I2.kept fun b o e => Heap.get?_push_of_some _ e) (Heap.get?_push_size _ rfl) q
def iRgIn (neg : Bool) (x : V) (vs : List V) (H : Hp) (Q : VK) : Prop := ∃ i a b c, x = .int i ∧ RgV vs a b c ∧ Q (.bl (inRgB neg a b c i)) H
instance {σ : L2.St} {H : Hp} {Q : VK} {neg : Bool} {ta : TE} {tA : TA} : Stp (tInRg neg ta tA σ H Q) (ta σ H fun x H1 => tA σ H1 fun vs H2 => iRgIn neg x vs H2 Q) := ⟨id⟩
theorem place_has (a b c i : Int) (hc : 0 < c) : (Builtin.Range.rangePlace? a b c i).isSome = decide (a ≤ i ∧ i < b ∧ (i - a) % c = 0) := by
  unfold Builtin.Range.rangePlace?
  rw [if_pos hc]
  by_cases h1 : a ≤ i <;> by_cases h2 : i < b <;> by_cases h3 : (i - a) % c = 0 <;> simp [h1, h2, h3]
theorem k_inRg1 {neg : Bool} {H : Hp} {Q : VK} {i n : Int} (h : Q (.bl (if neg then !decide (0 ≤ i ∧ i < n) else decide (0 ≤ i ∧ i < n))) H) : iRgIn neg (.int i) [.int n] H Q := ⟨i, 0, n, 1, rfl, .inl ⟨rfl, rfl, rfl⟩, by
  have e : decide (0 ≤ i ∧ i < n ∧ (i - 0) % 1 = 0) = decide (0 ≤ i ∧ i < n) := by rw [decide_eq_decide]; constructor <;> omega
  unfold inRgB
  rw [place_has 0 n 1 i (by decide), e]
  exact h⟩
theorem k_inRg3 {neg : Bool} {H : Hp} {Q : VK} {i a b c : Int} (hc : 0 < c) (hc2 : c < 1073741824) (h : Q (.bl (if neg then !decide (a ≤ i ∧ i < b ∧ (i - a) % c = 0) else decide (a ≤ i ∧ i < b ∧ (i - a) % c = 0))) H) : iRgIn neg (.int i) [.int a, .int b, .int c] H Q := ⟨i, a, b, c, rfl, .inr ⟨rfl, hc, hc2⟩, by
  unfold inRgB
  rw [place_has a b c i hc]
  exact h⟩
end Cm

namespace LxS
open PySem PySem.Calls PySem.W PyProof.Rows L2
section
variable {prog : Program} {w : World} {A : Around} {E : Value → Shared → Prop} {s : Shared} {a kS : Addr} {b : Bool} {vs : List Value} {keys : Array Value} {e e1 : Nat} {P : PySem.Fin → Shared → Prop} {ns : List Int}
/-- v is the whole number that d is -/
def IsI (v : Value) (d : PyData) : Prop := ∃ n t, v = .int n t ∧ d = .int n
theorem IsI.reads {h : Heap} {v : Value} {d : PyData} (x : IsI v d) : Reads h v d [] := by
  obtain ⟨n, t, rfl, rfl⟩ := x
  exact .int n t
theorem al_ints (ns : List Int) : AllAlike (ns.map .int) := AllAlike.of (enc := PyData.int) fun _ _ => rfl
theorem so_ints (ns : List Int) : Sortable (ns.map .int) := Sortable.others (enc := PyData.int) fun _ => ⟨(fun z => by cases z), (fun _ z => by cases z)⟩
/-- the keys are told by calls that keep J; then the sort itself -/
theorem keyJ_rest {f : Value} {J : Shared → Prop} (hJ : J s) (nk : s.heap.get? kS = some (seqObj "list" #[] 0)) (na : s.heap.get? a = some (seqObj "list" #[] e1)) (hka : kS ≠ a) (hlen : ns.length = vs.length) (hZ : vs.length ≤ sizeLine) (hu : A.units + 8 < cLine)
    (up : ∀ s' h', J s' → Heap.SameBut kS s'.heap h' → (∃ o', h'.get? kS = some o') → J { s' with heap := h' })
    (turn : ∀ (i : Nat) (v : Value) (n : Int), vs[i]? = some v → ns[i]? = some n → ∀ s', J s' → (∃ kA e, s'.heap.get? kS = some (seqObj "list" kA e)) → (∃ e, s'.heap.get? a = some (seqObj "list" #[] e)) →
      wpAny (model prog w) A (call f [v]) (fun u s'' => J s'' ∧ s''.heap.get? kS = s'.heap.get? kS ∧ s''.heap.get? a = s'.heap.get? a ∧ ∃ t, u = .int n t) (fun _ _ => False) s')
    (h : ∀ s' h' tk out c, J s' → (∀ d o, d ≠ a → d ≠ kS → s'.heap.get? d = some o → h'.get? d = some o) → h'.get? a = some (seqObj "list" (List.toArray out) c) → KeyedOut b (ns.map .int) vs out → P (.done (.ret .none)) { s' with heap := h', toks := tk }) :
    wpAny (model prog w) A (ksk_rest a f b vs.toArray e1 (.ref kS)) P E s := by
  unfold ksk_rest
  refine wpAny_bind (wpAny_rule ?_)
  first
    | rw [List.forIn_toArray]
    | (rw [← Array.forIn_toList]; simp only [List.toList_toArray])
    | rw [← Array.forIn_toList]
  refine wpAny_bind (ksk_fold (fun i s' => J s' ∧ ∃ kA e, s'.heap.get? kS = some (seqObj "list" kA e) ∧ s'.heap.get? a = some (seqObj "list" #[] e1) ∧ EachIs IsI kA.toList ((ns.map PyData.int).take i)) vs 0 s
    ⟨hJ, #[], 0, nk, na, by rw [List.take_zero]; exact EachIs.nil⟩ ?step ?done)
  case step =>
    rintro j x s' hx ⟨J', kA, e, nk', na', hk⟩
    simp only [Nat.zero_add] at hk ⊢
    have hj : j < vs.length := (List.getElem?_eq_some_iff.mp hx).1
    obtain ⟨n, hn⟩ : ∃ n, ns[j]? = some n := ⟨_, List.getElem?_eq_getElem (by omega)⟩
    have hz : kA.size ≤ vs.length := by
      have h1 := hk.length
      rw [Array.length_toList, List.length_take, List.length_map] at h1
      omega
    refine wpAny_bind (wpAny_attempt (wpAny_mono (turn j x n hx hn s' J' ⟨_, _, nk'⟩ ⟨_, na'⟩) (fun v s'' he => ?_) fun _ _ hF => hF.elim))
    obtain ⟨J2, k2, a2, t, rfl⟩ := he
    try dsimp only
    rw [nk'] at k2
    rw [na'] at a2
    have s1 := Heap.SameBut.update s''.heap kS (Obj.mapSeq (·.push (Value.int n t)))
    obtain ⟨c2, hc2⟩ : ∃ c2, (s''.heap.update kS (Obj.mapSeq (·.push (Value.int n t)))).get? kS = some (seqObj "list" (kA.push (Value.int n t)) c2) := ⟨_, get?_update_seq k2 (·.push (Value.int n t))⟩
    have ek : (ns.map PyData.int).take (j + 1) = (ns.map PyData.int).take j ++ [PyData.int n] := by rw [List.take_add_one, List.getElem?_map, hn]; simp
    have ea : (kA.push (Value.int n t)).toList = kA.toList ++ [Value.int n t] := by simp
    refine wpAny_bind (listUpdate_at k2 rfl ?_ (Nat.le_trans hz hZ) (Nat.le_trans (Nat.le_of_eq (Array.size_push ..)) (Nat.succ_le_succ (Nat.le_trans hz hZ))))
    refine wpAny_pure ⟨rfl, up _ _ J2 s1 ⟨_, hc2⟩, kA.push (Value.int n t), c2, hc2, (s1.2 a hka.symm).trans a2, ?_⟩
    rw [ea, ek]
    exact each_snoc (R := IsI) ⟨n, t, rfl, rfl⟩ hk
  case done =>
    rintro s' ⟨J', kA, e, nk', na', hk⟩
    have e3 : (ns.map PyData.int).take (0 + vs.length) = ns.map PyData.int := List.take_of_length_le (by rw [List.length_map]; omega)
    rw [e3] at hk
    have hk' : EachIs (fun v k => ∃ as, Reads s'.heap v k as) kA.toList (ns.map PyData.int) := hk.mono fun v k q => ⟨[], q.reads⟩
    have hsz : kA.size = vs.length := by
      have h1 := hk'.length
      rw [Array.length_toList, List.length_map] at h1
      omega
    try dsimp only
    refine wpAny_bind (listItems_at nk' rfl ?_)
    have hu' : ∀ d, d ∈ ns.map PyData.int → A.units + d.depth < cLine := fun d hd => by
      obtain ⟨n, _, rfl⟩ := List.mem_map.mp hd
      have : (PyData.int n).depth ≤ 1 := by first | decide | (simp [PyData.depth])
      omega
    have kp : KeepsBut a (PySem.W.hideAll s'.heap [kS]) s'.heap := fun c o _ q => PySem.W.of_hideAll [kS] q
    refine keyH_end (κ := dataKind s'.heap (ns.map .int)) kp (PySem.W.hideAll_none [kS] (by simp)) nk' na' hka (SortsAt.data hk' (al_ints ns) (so_ints ns) hu') hsz hZ fun h3 tk3 c k3 n3 =>
      h s' h3 tk3 _ c J' (fun d o h1 h2 q => k3 d o h1 (PySem.W.hideAll_get [kS] q (by simpa using h2))) n3 ⟨s'.heap, kA.toList, al_ints ns, rfl, hk'⟩
theorem keyJ_tree {f : Value} {J : Shared → Prop} {n : Nat} (ho : s.heap.get? a = some (seqObj "list" vs.toArray n)) (hlen : ns.length = vs.length) (hZ : vs.length ≤ sizeLine) (hu : A.units + 8 < cLine)
    (hJ : J { s with heap := sortingHeap s.heap a vs })
    (up : ∀ s' h', J s' → Heap.SameBut (s.heap.objs.size + 1) s'.heap h' → (∃ o', h'.get? (s.heap.objs.size + 1) = some o') → J { s' with heap := h' })
    (turn : ∀ (i : Nat) (v : Value) (n : Int), vs[i]? = some v → ns[i]? = some n → ∀ s', J s' → (∃ kA e, s'.heap.get? (s.heap.objs.size + 1) = some (seqObj "list" kA e)) → (∃ e, s'.heap.get? a = some (seqObj "list" #[] e)) →
      wpAny (model prog w) A (call f [v]) (fun u s'' => J s'' ∧ s''.heap.get? (s.heap.objs.size + 1) = s'.heap.get? (s.heap.objs.size + 1) ∧ s''.heap.get? a = s'.heap.get? a ∧ ∃ t, u = .int n t) (fun _ _ => False) s')
    (h : ∀ s' h' tk out c, J s' → (∀ d o, d ≠ a → d ≠ s.heap.objs.size + 1 → s'.heap.get? d = some o → h'.get? d = some o) → h'.get? a = some (seqObj "list" (List.toArray out) c) → KeyedOut b (ns.map .int) vs out → P (.done (.ret .none)) { s' with heap := h', toks := tk }) :
    wpAny (model prog w) A (ksk_tree a f b) P E s := by
  have ha : a < s.heap.objs.size := Heap.lt_size ho
  obtain ⟨e1, ho1⟩ : ∃ e1, (s.heap.update a (Obj.mapSeq fun _ => (#[] : Array Value))).get? a = some (seqObj "list" #[] e1) := ⟨_, get?_update_seq ho fun _ => #[]⟩
  have hkS : ((s.heap.update a (Obj.mapSeq fun _ => (#[] : Array Value))).push (seqObj "tuple" vs.toArray 0)).objs.size = s.heap.objs.size + 1 := by rw [size_push', Heap.size_update]
  unfold ksk_tree
  refine wpAny_bind (listItems_at ho rfl ?_)
  refine wpAny_bind (listUpdate_at ho rfl ?_ (by rw [List.size_toArray]; exact hZ) (Nat.zero_le _))
  refine wpAny_bind (seqEpoch_at ho1 rfl ?_)
  refine wpAny_bind (wpAny_newTuple ?_ (by show vs.length ≤ _; exact hZ))
  refine wpAny_bind (wpAny_newList ?_ (Nat.zero_le _))
  refine wpAny_holding ?_
  have e0 : ((s.heap.update a (Obj.mapSeq fun _ => (#[] : Array Value))).push (seqObj "tuple" vs.toArray 0)).push (seqObj "list" #[] 0) = sortingHeap s.heap a vs := rfl
  try dsimp only
  rw [hkS]
  refine keyJ_rest (J := J) (s := { s with heap := ((s.heap.update a (Obj.mapSeq fun _ => (#[] : Array Value))).push (seqObj "tuple" vs.toArray 0)).push (seqObj "list" #[] 0) }) (kS := s.heap.objs.size + 1) hJ
    (by rw [← hkS]; exact Heap.get?_push_size _ rfl) (Heap.get?_push_of_some _ (Heap.get?_push_of_some _ ho1)) (Nat.ne_of_gt (Nat.lt_succ_of_lt ha)) hlen hZ hu up turn h
end
end LxS
namespace LxS
open PySem PySem.Spec PyProof.Rows L2 LamX Cm
section
variable {X : Cx} {pins : List (Addr × Obj)} {σ : L2.St} {H : Hp} {s : Shared}
/-- a lambda's name -/
abbrev lq (X : Cx) : Str := X.env.qual ++ "<lambda>"
theorem nofr (I : Inv X pins σ H s) {f : Addr} (hf : s.heap.objs.size ≤ f) : f ∉ frs X.stack := fun z => by
  rcases List.mem_cons.mp (I.stkSub _ z) with e | e
  · have h1 := I.lt
    rw [← e] at h1
    exact absurd (Nat.lt_of_lt_of_le h1 hf) (Nat.lt_irrefl _)
  · exact I.nofs hf e
/-- a lambda is made: all that is known but the table at P stays -/
theorem lam_one {c P : Addr} {params : Arguments} {body : Expr} {scope : Scope} {pos : Pos} {E : Value → Shared → Prop} {Q : Value → Shared → Prop} (I : Inv X pins σ H s) (TB : TabB X.base X.mg c P) (hcode : X.env.code = .ref c)
    (hT : TabS H P (lq X)) (hdef : defaultsOf params X.env = ([], [])) (hfree : ∀ y ∈ scope.names, y.2 = .free → ∃ c, X.env.cells.lookup y.1 = some c)
    (h : ∀ (f c' : Addr) (pm ctv : Value) (G : Hp) (s' : Shared), Inv X pins σ G s' → Same (hid [P] H) (hid [P] G) → TabS G P (lq X) →
      s'.heap.get? f = some (PySem.W.kla_obj "<lambda>" (lq X) params body scope (cloFrom X.env.cells scope.names []) pm c' ctv) → G f = none → s.heap.objs.size ≤ f → G c' = some (CodeO c' (lq X)) → Q (.ref f) s') :
    wpAny (model X.prog X.w) X.A (eval (.Lambda params body scope pos) X.env) Q E s := by
  obtain ⟨tab, atP, trip, known⟩ := hT
  have bltP : s.heap.BuiltinsAt X.mg P := TB.bm.keeps I.bk
  have onP : s.heap.get? P = some { cls := .none, data := .fields tab } := I.hok P _ atP
  refine PySem.W.kla_eval hdef ?_
  cases found : codeAmong pos tab.toList with
  | some cv =>
    obtain ⟨c', rfl, isC⟩ := known pos cv found
    refine PySem.W.kla_makeFunctionHit (mg := X.mg) (c := c) (P := P) (ps := tab) (closure_ok hfree) I.ok.glob (I.mod.glob.keeps I.bk) hcode (TB.code.keeps I.bk) onP trip found bltP fun ctv g tk grow big => ?_
    refine h _ c' _ ctv H _ (I.kept fun b o e => Heap.get?_push_of_some _ (grow b o e)) (Same.refl _) ⟨tab, atP, trip, known⟩ (Heap.get?_push_size _ rfl) (I.hok.fresh big) big isC
  | none =>
    refine PySem.W.kla_makeFunction (mg := X.mg) (c := c) (P := P) (ps := tab) (closure_ok hfree) I.ok.glob (I.mod.glob.keeps I.bk) hcode (TB.code.keeps I.bk) onP trip found TB.gP bltP fun c' ctv g tk grow low high isR onT => ?_
    obtain ⟨_, oc, us, t, ec, onC, dC, nC⟩ := isR
    cases ec
    have big : s.heap.objs.size ≤ g.objs.size := Nat.le_trans low (Nat.le_of_lt high)
    have fr : H c' = none := I.hok.fresh low
    have ne : P ≠ c' := ne_of_none atP fr
    have J := inv_table (t' := tk) (q := lq X) (more := #[rawInt pos.line, rawInt pos.col, .ref c']) (h' := g.push (PySem.W.kla_obj "<lambda>" (lq X) params body scope (cloFrom X.env.cells scope.names []) ((X.mg "__name__").getD .none) c' ctv)) I atP
      (fun b o hb e => Heap.get?_push_of_some _ (grow b o hb e)) (Heap.get?_push_of_some _ onT) low ⟨oc, us, t, Heap.get?_push_of_some _ onC, dC, nC⟩
    have same : ∀ b o, b ≠ P → H b = some o → upd (upd H P (.tbl (tab ++ #[rawInt pos.line, rawInt pos.col, .ref c']))) c' (CodeO c' (lq X)) b = some o := fun b o hb e => by
      rw [upd_ne (ne_of_none e fr), upd_ne hb]
      exact e
    refine h _ c' _ ctv _ _ J (fun b o e => ?_) ⟨tab ++ #[rawInt pos.line, rawInt pos.col, .ref c'], by rw [upd_ne ne, upd_same], ?_, fun p' cv hcv => ?_⟩ (Heap.get?_push_size _ rfl) ?_ big upd_same
    · obtain ⟨n, e⟩ := hid_some e
      rw [hid_ne n]
      exact same b o (fun z => n (by simp [z])) e
    · rw [Array.toList_append]
      exact PySem.TriplesOk_snoc _ _ _ _ trip
    · rw [Array.toList_append] at hcv
      rcases among_app _ trip hcv with z | z
      · obtain ⟨c0, e1, e2⟩ := known p' cv z
        exact ⟨c0, e1, same _ _ (fun y => by rw [y, atP] at e2; exact codeO_ne tab (Option.some.inj e2).symm) e2⟩
      · exact ⟨c', z, upd_same⟩
    · rw [upd_ne (Nat.ne_of_gt high), upd_ne (Nat.ne_of_gt (Nat.lt_of_lt_of_le (Heap.lt_size onP) big))]
      exact I.hok.fresh big
/-- a lambda of one parameter k, which the def has as its i-th name, too -/
structure Lam1 (N : List Str) (i : Nat) (k : Str) (sc scope : Scope) : Prop where
  kind : scope.kind = .function
  co : scope.isCoroutine = false
  gen : scope.isGenerator = false
  own : ∀ y ∈ scope.names, y.2 ≠ .cell ∧ (y.2 = .local → y.1 = k)
  par : scope.names.lookup k = some .local
  free : ∀ y ∈ scope.names, y.2 = .free → sc.names.lookup y.1 = some .cell ∨ sc.names.lookup y.1 = some .free
  at_ : N[i]? = some k
  nd : N.Nodup
def lam1B (N : List Str) (i : Nat) (k : Str) (sc scope : Scope) : Bool :=
  decide (scope.kind = .function) && !scope.isCoroutine && !scope.isGenerator && decide (scope.names.lookup k = some .local) && decide (N[i]? = some k) && decide N.Nodup &&
    scope.names.all fun y => !decide (y.2 = .cell) && (!decide (y.2 = .local) || decide (y.1 = k)) && (!decide (y.2 = .free) || decide (sc.names.lookup y.1 = some .cell) || decide (sc.names.lookup y.1 = some .free))
theorem lam1_by {N : List Str} {i : Nat} {k : Str} {sc scope : Scope} (h : lam1B N i k sc scope = true) : Lam1 N i k sc scope := by
  unfold lam1B at h
  simp only [Bool.and_eq_true, Bool.or_eq_true, Bool.not_eq_true', decide_eq_true_eq, decide_eq_false_iff_not, List.all_eq_true] at h
  obtain ⟨⟨⟨⟨⟨⟨a1, a2⟩, a3⟩, a4⟩, a5⟩, a6⟩, a7⟩ := h
  refine ⟨a1, a2, a3, fun y hy => ⟨(a7 y hy).1.1, fun e => (a7 y hy).1.2.resolve_left (fun z => z e)⟩, a4, fun y hy e => ?_, a5, a6⟩
  rcases (a7 y hy).2 with (z | z) | z
  · exact absurd e z
  · exact .inl z
  · exact .inr z
theorem Lam1.has {X : Cx} {i : Nat} {k : Str} {scope : Scope} (L : Lam1 X.N i k X.env.scope scope) (ok : X.Ok) : ∀ y ∈ scope.names, y.2 = .free → ∃ c, X.env.cells.lookup y.1 = some c := fun y hy e => by
  rcases L.free y hy e with z | z
  · exact ok.has _ (.inl z)
  · exact ok.has _ (.inr z)
/-- its body starts -/
theorem lam_in {A : Around} {E : XK} {scope : Scope} {f c' : Addr} {g : Heap} {tk i : Nat} {k : Str} {v : V} {u : Value} (I : Inv X pins σ H s) (L : Lam1 X.N i k X.env.scope scope) (fr : A.frames = some X.stack) (hd : A.handled = none) (rv : RelV v u)
    (hns : g.Ns s.heap.objs.size fun y => ([(k, u)] : List (Str × Value)).reverse.lookup y) (kp : ∀ b o, s.heap.get? b = some o → g.get? b = some o) :
    Inv (lamCx X A X.stack s H E scope f c') [] (σ.set i (some v)) H { s with heap := g, toks := tk } := by
  have e0 := I.env0
  have hfree := L.has I.ok
  have up : ∀ {y c}, (cloFrom X.env.cells scope.names []).lookup y = some c → X.env.cells.lookup y = some c := fun {y c} e => by
    rcases cloFrom_mem (PySem.mem_of_lookup e) with m | ⟨m1, m2⟩
    · cases m
    · obtain ⟨d, hd⟩ := hfree _ m1 rfl
      have hd : X.env.cells.lookup y = some d := hd
      have : c = d := by rw [m2, hd] <;> rfl
      rw [this]
      exact hd
  have noA : ∀ b : Addr, b ∉ (lamCx X A X.stack s H E scope f c').ex := fun b z => absurd (show b ∈ ([] : List Addr) from z) (by simp)
  refine ⟨⟨e0.mod, L.kind, rfl, rfl, Nat.le_refl _, fun y z c e1 e2 => I.ok.inj y z c (up e1) (up e2), fun y hy => ?_, fun y c z _ => ?_, fun _ => hd, Around.frames_deeper fr, .inr ⟨rfl, rfl⟩, fun b z => absurd z (noA b), e0.bs, e0.bsz, fun b _ _ => noA b,
      fun b z => absurd z (noA b), e0.funs, e0.frf⟩,
    rfl, e0.bare, Un.kept kp, ⟨_, hns, fun j y w e1 e2 e3 => ?_⟩, fun y c e => ?_, e0.hok.fresh (Nat.le_refl _), fun y c e => I.freeC y c (up e), fun q hq => absurd (show q ∈ ([] : List (Addr × Obj)) ++ [] from hq) (by simp), e0.hok.kept kp, ?_⟩
  · have hy : scope.names.lookup y = some .cell ∨ scope.names.lookup y = some .free := hy
    rcases hy with hy | hy
    · exact absurd rfl (L.own _ (PySem.mem_of_lookup hy)).1
    · exact mem_lookup (cloFrom_has (cells := X.env.cells) (acc := []) (PySem.mem_of_lookup hy))
  · have z : false = true := z
    cases z
  · have e3 : Vis scope y := e3
    have e1 : X.N[j]? = some y := e1
    by_cases hj : j = i
    · subst hj
      have ey : y = k := Option.some.inj (e1.symm.trans L.at_)
      subst ey
      have hlt : j < σ.length := by rw [I.len]; exact (List.getElem?_eq_some_iff.mp e1).1
      rw [List.getElem?_set_self hlt] at e2
      cases e2
      exact ⟨u, rv, .inl ⟨L.par, by simp⟩⟩
    · rw [List.getElem?_set_ne (Ne.symm hj)] at e2
      rcases e3 with z | z | z
      · have ey : y = k := (L.own _ (PySem.mem_of_lookup z)).2 rfl
        exact absurd (nodup_ix L.nd e1 (by rw [ey]; exact L.at_)) hj
      · exact absurd rfl (L.own _ (PySem.mem_of_lookup z)).1
      · obtain ⟨m, hn, hl⟩ := I.loc
        have mem := PySem.mem_of_lookup z
        have vis : Vis X.env.scope y := (L.free _ mem rfl).elim (fun q => .inr (.inl q)) (fun q => .inr (.inr q))
        obtain ⟨w', r, q⟩ := hl j y w e1 e2 vis
        obtain ⟨d, hd2⟩ := mem_lookup (cloFrom_has (cells := X.env.cells) (acc := []) mem)
        refine ⟨w', r, .inr ⟨.inr z, d, hd2, ?_⟩⟩
        have d1 := up hd2
        rcases q with ⟨q, _⟩ | ⟨_, d3, q, cel⟩
        · have q : X.env.scope.names.lookup y = some .local := q
          rcases L.free _ mem rfl with q2 | q2 <;> rw [show X.env.scope.names.lookup y = _ from q2] at q <;> cases q
        · rw [d1] at q
          cases q
          obtain ⟨o, ho, hdt⟩ := cel
          exact ⟨o, kp _ _ ho, hdt⟩
  · obtain ⟨w, o, ho, hdt⟩ := I.cell y c (up e)
    exact ⟨w, o, kp _ _ ho, hdt⟩
  · show (σ.set i (some v)).length = X.N.length
    rw [List.length_set]
    exact I.len
/-- it is called at a whole number: a pure reading, so what is known stays -/
theorem lam_call {A : Around} {f c' : Addr} {pm ctv : Value} {params : Arguments} {body : Expr} {scope : Scope} {j i : Nat} {k : Str} {v : V} {u : Value} {r : V} {tb : TE} {Z : Value → Shared → Prop} (I : Inv X pins σ H s) (L : Lam1 X.N i k X.env.scope scope) (hr : Room (j + 1) A) (fr : A.frames = some X.stack)
    (hf : s.heap.get? f = some (PySem.W.kla_obj "<lambda>" (lq X) params body scope (cloFrom X.env.cells scope.names []) pm c' ctv)) (hc : H c' = some (CodeO c' (lq X))) (rv : RelV v u)
    (hbind : bindArgs (PySem.W.kla_fn "<lambda>" (lq X) params body scope (cloFrom X.env.cells scope.names []) pm (.ref c') ctv) ⟨[u], []⟩ = pure [(k, u)])
    (hbody : ∀ (A : Around) (outer : List Env) (s : Shared) (H : Hp), Room j (A.deeper (lamEnv X scope s.heap.objs.size f c')) → PE (lamCx X A outer s H (fun _ _ _ => False) scope f c') body tb)
    (h : tb (σ.set i (some v)) H fun w G => w = r ∧ G = H) :
    wpAny (model X.prog X.w) A (call (.ref f) [u]) (fun u' s' => Inv X pins σ H s' ∧ RelV r u') Z s := by
  obtain ⟨⟨oc, us, t, onC, dC, nC⟩, _, _⟩ := I.hok c' _ hc
  have main : codeAny (model X.prog X.w) A (.call (.ref f) ⟨[u], []⟩) (CR (L2.CX X.prog X.w) X.stack X.prog X.w H s (fun w G => w = r ∧ G = H) fun _ _ _ => False) s := by
    refine PySem.W.kla_callFunE hr.depth hf rfl L.co L.gen rfl ⟨c', oc, us, t, rfl, onC, dC, nC⟩ ?_
    rw [hbind]
    refine wpAny_pure (wpAny_newFunctionEnv (fun y hy => (L.own y hy).1) (fun y hy => ?_) (fun g hns hsb => ⟨I.nolimit.fresh _ hsb, ?_⟩) L.kind)
    · obtain rfl : y = (k, u) := by simpa using hy
      exact L.par
    · show codeAny _ _ (.expr body (lamEnv X scope s.heap.objs.size f c')) _ _
      have kp : ∀ b o, s.heap.get? b = some o → g.get? b = some o := fun b o e => hsb.extBut b o (Nat.ne_of_lt (Heap.lt_size e)) (Heap.get?_push_of_some _ e)
      have J := lam_in (A := A) (E := fun _ _ _ => False) (f := f) (c' := c') (tk := s.toks + ([(k, u)] : List (Str × Value)).length) I L fr hr.hd rv hns kp
      refine PySem.W.kla_codeExpr (wpAny_mono ((hbody _ _ s H (hr.deeper _)).run [] _ _ H _ J h) (fun u' s' q => ?_) fun e s' q => q)
      obtain ⟨w, G, J', rw', q⟩ := q
      exact ⟨w, G, J'.os, J'.bare, J'.base, J'.hok, rw', q⟩
  refine wpAny_call (codeAny_mono main fun res s' q => ?_)
  cases res with
  | error e =>
    obtain ⟨_, _, _, _, _, _, _, _, _, _, _, _, z⟩ : L2.CX X.prog X.w X.stack H s (fun _ _ _ => False) e s' := q
    exact z.elim
  | ok fl =>
    cases fl with
    | ret u' =>
      obtain ⟨w, G, J, rw', rfl, rfl⟩ := I.after q
      exact ⟨J, rw'⟩
    | next => exact False.elim q
    | brk => exact False.elim q
    | cont => exact False.elim q
end
end LxS
namespace LxS
open PySem PySem.Spec PySem.Calls PySem.W PyProof.Rows L2 LamX Cm
section
variable {prog : Program} {w : World} {A : Around} {E : Value → Shared → Prop} {s : Shared}
/-- sorted(v, ..): v's items are collected, then laid in a new list, which is sorted -/
theorem sorted_any {v : Value} {kw : List (Str × Value)} {R : List Value → Prop} {Q : Value → Shared → Prop} (ha1 : argsOk "sorted" ⟨[v], kw⟩) (ha2 : ∀ x, argsOk "list.sort" ⟨[.ref x], kw⟩) (hR : ∀ vs, R vs → vs.length ≤ sizeLine)
    (hc : ∀ (E' : Value → Shared → Prop) (Q' : List Value → Shared → Prop), (∀ h' tk vs, (∀ b o, s.heap.get? b = some o → h'.get? b = some o) → R vs → Q' vs { s with heap := h', toks := tk }) → wpAny (model prog w) A.in1 (collect v) Q' E' s)
    (body : ∀ (E' : Value → Shared → Prop) (h' : Heap) (tk : Nat) (vs : List Value), (∀ b o, s.heap.get? b = some o → h'.get? b = some o) → R vs →
      wpAny (model prog w) A.in1.in1 (Builtin.«list.sort» ⟨[.ref h'.objs.size], kw⟩) (fun f s' => f = .done (.ret .none) ∧ Q (.ref h'.objs.size) s') E' { s with heap := h'.push (seqObj "list" vs.toArray 0), toks := tk }) :
    wpAny (model prog w) A (call (.builtin "sorted") [v] kw) Q E s := by
  refine call_function_entry_kw kind_sorted plain_sorted entry_sorted ha1 ?_
  unfold Builtin.«sorted»
  refine wpAny_bind (m := checkCount "sorted" 1 1 _) (wpAny_pure (wpAny_bind (hc _ _ fun h' tk vs kp r => ?_)))
  refine wpAny_bind (wpAny_newList (wpAny_bind (wpAny_holding (wpAny_call_entry_kw slot_list_sort ⟨_, Heap.get?_push_size _ rfl, rfl⟩ entry_list_sort ?_ (ha2 _)))) (hR vs r))
  show wpAny (model prog w) A.in1.in1 (Builtin.«list.sort» ⟨[.ref h'.objs.size], kw⟩) _ _ _
  refine wpAny_mono (body _ h' tk vs kp r) (fun f s' hf => ?_) fun _ _ e => e
  obtain ⟨rfl, hq⟩ := hf
  exact ⟨_, rfl, wpAny_pure ⟨_, rfl, hq⟩⟩
end
section
variable {X : Cx} {pins : List (Addr × Obj)} {σ : L2.St} {H : Hp} {s s1 : Shared}
/-- two new, untracked objects were changed; one of them is known from now on -/
theorem inv_two {a kS : Addr} {h' : Heap} {tk c : Nat} {xs : List V} {out : List Value} (I0 : Inv X pins σ H s) (I : Inv X pins σ H s1) (la : s.heap.objs.size ≤ a) (lk : s.heap.objs.size ≤ kS)
    (keep : ∀ d o, d ≠ a → d ≠ kS → s1.heap.get? d = some o → h'.get? d = some o) (new : h'.get? a = some (seqObj "list" out.toArray c)) (hl : out.length ≤ sizeLine) (rv : Vals xs out) :
    Inv X pins σ (upd H a (.lst xs)) { s1 with heap := h', toks := tk } := by
  have na : H a = none := I0.hok.fresh la
  have nk : H kS = none := I0.hok.fresh lk
  have low : ∀ {b : Addr} {o : Obj}, s.heap.get? b = some o → b ≠ a ∧ b ≠ kS := fun {b o} e => ⟨Nat.ne_of_lt (Nat.lt_of_lt_of_le (Heap.lt_size e) la), Nat.ne_of_lt (Nat.lt_of_lt_of_le (Heap.lt_size e) lk)⟩
  have lowL : X.env.locals ≠ a ∧ X.env.locals ≠ kS := by
    obtain ⟨m, ⟨o, _, _, ho, _⟩, _⟩ := I0.loc
    exact low ho
  have nin : ∀ b : Addr, b ∉ [a, kS] → b ≠ a ∧ b ≠ kS := fun b hb => by simpa using hb
  refine I.step (g' := s1.gens) (d' := s1.drawn) (ch := [a, kS]) (fun b hb => ?_) (fun b o _ _ hc e _ => keep b o (nin b hc).1 (nin b hc).2 e) (fun b o _ _ hc e _ => ⟨o.slots, keep b o (nin b hc).1 (nin b hc).2 e⟩)
    (fun b o hc _ n => by rw [upd_ne (nin b hc).1]; exact n) (fun b o hc e => ⟨o, keep b o (nin b hc).1 (nin b hc).2 e⟩) (fun b ys e => by rw [upd_ne (ne_of_none e na)]; exact e) (fun b o u e => by rw [upd_ne (ne_of_none e na)]; exact e)
    (fun b ps e => ⟨#[], by rw [upd_ne (ne_of_none e na), e]; simp⟩) (fun m hm => ?_) (fun b u e => ?_) I.bare
  · have two : ∀ {z : Addr}, s.heap.objs.size ≤ z → (z ∈ X.ex ∨ X.s_0.heap.objs.size ≤ z) ∧ z ≠ X.env.locals ∧ (∀ y c, X.env.cells.lookup y = some c → c ≠ z) ∧ ∀ p ∈ X.pn ++ pins, p.1 ≠ z := fun {z} lz => by
      refine ⟨.inr (Nat.le_trans I0.sz lz), Nat.ne_of_gt (Nat.lt_of_lt_of_le I0.lt lz), fun y c e q => ?_, fun p hp q => ?_⟩
      · obtain ⟨v, o, ho, _⟩ := I0.cell y c e
        exact absurd (Nat.lt_of_lt_of_le (Heap.lt_size ho) (by rw [q]; exact lz)) (Nat.lt_irrefl _)
      · exact absurd (Nat.lt_of_lt_of_le (Heap.lt_size (I0.pin p hp).1) (by rw [q]; exact lz)) (Nat.lt_irrefl _)
    have hb : b = a ∨ b = kS := by simpa using hb
    rcases hb with rfl | rfl
    · exact two la
    · exact two lk
  · obtain ⟨o, es, ep, ho, r⟩ := hm
    exact ⟨o, es, ep, keep _ o lowL.1 lowL.2 ho, r⟩
  · by_cases hb : b = a
    · subst hb
      rw [upd_same] at e
      cases e
      exact ⟨by rw [rv.length]; exact hl, out, c, rv, new⟩
    · rw [upd_ne hb] at e
      refine (I.hok b u e).stay (fun d v hd q => ?_) (fun d q => by rw [upd_ne (ne_of_none q na)]; exact q) fun d ys q => by rw [upd_ne (ne_of_none q na)]; exact q
      rcases hd with rfl | hd
      · exact keep _ v hb (ne_of_none e nk) q
      · exact keep _ v (ne_of_none hd na) (ne_of_none hd nk) q
/-- v is a list, or a range, of the whole numbers ns -/
def IntsIn (K : PySem.W.Frag) (H : Hp) (v : V) (ns : List Int) : Prop := ns.length ≤ 100000 ∧ ((∃ a, v = .ref a ∧ SqL K H a (ns.map V.int)) ∨ ∃ (a : Addr) (n : Nat), v = .ref a ∧ H a = some (.rng 0 n) ∧ ns = (List.range n).map fun i => ((i : Nat) : Int))
/-- the numbers in the order of their keys -/
def byKey (key : Int → Int) (ns : List Int) : List Int := ns.mergeSort fun x y => decide (key x ≤ key y)
def tSrtLam (K : PySem.W.Frag) (P : Addr) (q : Str) (i : Nat) (t : TA) (tb : TE) : TE := fun σ H Q => t σ H fun vs H1 => ∃ (v : V) (ns : List Int), vs = [v] ∧ TabS H1 P q ∧ ∀ H2, Same (hid [P] H1) (hid [P] H2) → TabS H2 P q →
  IntsIn K H2 v ns ∧ ∃ key : Int → Int, (∀ n ∈ ns, tb (σ.set i (some (.int n))) H2 fun w H4 => w = .int (key n) ∧ H4 = H2) ∧ ∀ a, H2 a = none → Q (.ref a) (upd H2 a (.lst ((byKey key ns).map V.int)))
theorem ints_is {vs : List Value} {ns : List Int} (h : IntsAre vs ns) : EachIs (fun v n => ∃ t, v = .int n t) vs ns := by
  induction h with
  | nil => exact .nil
  | cons n t _ ih => exact .cons ⟨t, rfl⟩ ih
theorem vals_is {vs : List Value} {ns : List Int} (h : EachIs (fun v n => ∃ t, v = .int n t) vs ns) : Vals (ns.map V.int) vs := by
  induction h with
  | nil => exact .nil
  | cons h _ ih => exact .cons h ih
theorem sorted_lam {f c' : Addr} {pm ctv : Value} {params : Arguments} {body : Expr} {scope : Scope} {i j : Nat} {k : Str} {tb : TE} {v : V} {u : Value} {ns : List Int} {key : Int → Int} {Q : VK} {Z : Value → Shared → Prop} (I : Inv X pins σ H s) (L : Lam1 X.N i k X.env.scope scope) (hr : Room (j + 3) X.A)
    (hf : s.heap.get? f = some (PySem.W.kla_obj "<lambda>" (lq X) params body scope (cloFrom X.env.cells scope.names []) pm c' ctv)) (hfn : H f = none) (hfl : f ≠ X.env.locals ∧ f ∉ X.fs) (hc : H c' = some (CodeO c' (lq X))) (rv : RelV v u) (hi : IntsIn X.K H v ns)
    (hbind : ∀ u, bindArgs (PySem.W.kla_fn "<lambda>" (lq X) params body scope (cloFrom X.env.cells scope.names []) pm (.ref c') ctv) ⟨[u], []⟩ = pure [(k, u)])
    (hbody : ∀ (A : Around) (outer : List Env) (s : Shared) (H : Hp), Room j (A.deeper (lamEnv X scope s.heap.objs.size f c')) → PE (lamCx X A outer s H (fun _ _ _ => False) scope f c') body tb)
    (hkey : ∀ n ∈ ns, tb (σ.set i (some (.int n))) H fun w G => w = .int (key n) ∧ G = H) (h : ∀ a, H a = none → Q (.ref a) (upd H a (.lst ((byKey key ns).map V.int)))) :
    wpAny (model X.prog X.w) X.A (call (.builtin "sorted") [u] [(Str.ofString "key", .ref f)]) (EP X pins σ Q) Z s := by
  obtain ⟨hz, hi⟩ := hi
  have line : 100000 ≤ sizeLine := by rw [sizeLine_eq]; omega
  refine sorted_any (R := fun vs => IntsAre vs ns) (PyProof.Rows.ksk_s1 _ _) (fun _ => PyProof.Rows.ksk_l1 _ _) (fun vs r => by rw [r.length]; omega) (fun E' Q' hQ => ?_) fun E' g tk vs kp r => ?_
  · rcases hi with ⟨a, rfl, hq⟩ | ⟨a, n, rfl, hq, rfl⟩
    · obtain ⟨its, r, pl, _⟩ := I.list hq
      obtain rfl : u = Value.ref a := rv
      exact PyProof.Rows.collect_list pl.isList (hQ _ s.toks its (fun b o e => by rw [Heap.get?_update_ne _ _ _ _ (Nat.ne_of_lt (Heap.lt_size e))]; exact Heap.get?_push_of_some _ e) r.ints) (by rw [← r.length, List.length_map]; omega)
    · obtain ⟨t1, t2, t3, hg⟩ := I.hok a _ hq
      obtain rfl : u = Value.ref a := rv
      rw [List.length_map, List.length_range] at hz
      refine L2.collect_range (a := 0) (b := n) (c := 1) (n := n) (t := t1) (u := t2) (v := t3) hr.hd hg ?_ ?_ (by omega) fun h' tk acc kp hacc => hQ h' tk _ kp ?_
      · exact small_one (by omega) (by omega) (by omega) (by omega)
      · have e := rangeSize_nat (0 : Int) (n : Int)
        rwa [show ((n : Int) - 0).toNat = n by omega] at e
      · have e := vals_rg (a := 0) (b := (n : Int)) (acc := acc) (by rw [show ((n : Int) - 0).toNat = n by omega]; exact hacc)
        have e2 : rgV 0 (n : Int) = ((List.range n).map fun i => ((i : Nat) : Int)).map V.int := by
          unfold rgV
          rw [show ((n : Int) - 0).toNat = n by omega, List.map_map]
          refine List.map_congr_left fun i _ => ?_
          show V.int (0 + (i : Int)) = V.int (i : Int)
          rw [Int.zero_add]
        rw [e2] at e
        exact e.ints
  · have eN : (ns.map key).length = vs.length := by rw [List.length_map, r.length]
    have Ig : Inv X pins σ H { s with heap := g, toks := tk } := I.kept kp
    clear hi rv
    replace hf := kp _ _ hf
    have big : g.objs.size ≤ g.objs.size := Nat.le_refl _
    have hgz : (g.push (seqObj "list" vs.toArray 0)).objs.size = g.objs.size + 1 := size_push' _ _
    have gone : ∀ {z : Addr}, g.objs.size ≤ z → H z = none ∧ z ≠ X.env.locals ∧ z ∉ X.fs := fun {z} lz => ⟨Ig.hok.fresh lz, Nat.ne_of_gt (Nat.lt_of_lt_of_le Ig.lt lz), Ig.nofs lz⟩
    have nocell : ∀ v, (PySem.W.kla_obj "<lambda>" (lq X) params body scope (cloFrom X.env.cells scope.names []) pm c' ctv).data ≠ .cell v := fun v z => by cases z
    have Jf : Inv X (pins ++ [(f, PySem.W.kla_obj "<lambda>" (lq X) params body scope (cloFrom X.env.cells scope.names []) pm c' ctv)]) σ H { s with heap := g, toks := tk } := Ig.pins_of fun p hp => by
      rcases List.mem_append.mp hp with z | z
      · exact Ig.pin p (List.mem_append_right _ z)
      · obtain rfl : p = _ := List.mem_singleton.mp z
        exact ⟨hf, hfn, hfl.1, hfl.2, nocell⟩
    have seqNo : ∀ {xs : Array Value} {n : Nat} (v), (seqObj "list" xs n).data ≠ .cell v := fun v z => by cases z
    rw [ksk_t1]
    refine keyJ_tree (ns := ns.map key) (J := fun s' => Inv X (pins ++ [(f, PySem.W.kla_obj "<lambda>" (lq X) params body scope (cloFrom X.env.cells scope.names []) pm c' ctv)]) σ H s') (Heap.get?_push_size _ rfl) eN (by rw [r.length]; omega) (by have := hr.un; show X.A.units + 1 + 1 + 8 < cLine; omega) ?_ ?_ ?_ ?_
    · exact Jf.kept fun b o e => sortingHeap_old (Nat.ne_of_lt (Heap.lt_size e)) (Heap.get?_push_of_some _ e)
    · intro s' h' J sb ⟨o', ho'⟩
      have lk : g.objs.size ≤ (g.push (seqObj "list" vs.toArray 0)).objs.size + 1 := by omega
      refine J.turned (it := (g.push (seqObj "list" vs.toArray 0)).objs.size + 1) (fun b o hb e => (sb.2 b hb).trans e) (gone lk).1 (gone lk).2.1 (.inr (Nat.le_trans Ig.sz lk)) (fun y c e q => ?_) fun p hp q => ?_
      · obtain ⟨v, o, ho, _⟩ := Ig.cell y c e
        exact absurd (Nat.lt_of_lt_of_le (Heap.lt_size ho) (by rw [q]; exact lk)) (Nat.lt_irrefl _)
      · exact absurd (Nat.lt_of_lt_of_le (Heap.lt_size (Jf.pin p hp).1) (by rw [q]; exact lk)) (Nat.lt_irrefl _)
    · intro m v n hv hn s' J ⟨kA, ek, hk⟩ ⟨ea, ha⟩
      obtain ⟨x, hx, rfl⟩ : ∃ x, ns[m]? = some x ∧ n = key x := by
        rw [List.getElem?_map] at hn
        cases q : ns[m]? with
        | none => rw [q] at hn; cases hn
        | some x => rw [q] at hn; exact ⟨x, rfl, (Option.some.inj hn).symm⟩
      obtain ⟨t, rfl⟩ : ∃ t, v = .int x t := (ints_is r).zip (v, x) (List.mem_of_getElem? (i := m) (by rw [List.getElem?_zip_eq_some]; exact ⟨hv, hx⟩))
      have J2 : Inv X ((pins ++ [(f, PySem.W.kla_obj "<lambda>" (lq X) params body scope (cloFrom X.env.cells scope.names []) pm c' ctv)]) ++ [((g.push (seqObj "list" vs.toArray 0)).objs.size + 1, seqObj "list" kA ek), (g.objs.size, seqObj "list" #[] ea)]) σ H s' := J.pins_of fun p hp => by
        rcases List.mem_append.mp hp with z | z
        · exact J.pin p (List.mem_append_right _ z)
        · rcases List.mem_cons.mp z with rfl | z
          · have q := gone (z := (g.push (seqObj "list" vs.toArray 0)).objs.size + 1) (by omega)
            exact ⟨hk, q.1, q.2.1, q.2.2, seqNo⟩
          · obtain rfl := List.mem_singleton.mp z
            have q := gone big
            exact ⟨ha, q.1, q.2.1, q.2.2, seqNo⟩
      have hf' : s'.heap.get? f = some (PySem.W.kla_obj "<lambda>" (lq X) params body scope (cloFrom X.env.cells scope.names []) pm c' ctv) := (J.pin (f, _) (by simp)).1
      refine wpAny_mono (lam_call (j := j) (A := X.A.in1.in1) (r := .int (key x)) J2 L hr.in1.in1 I.ok.frames hf' hc (v := .int x) ⟨t, rfl⟩ (hbind _) hbody (hkey x (List.mem_of_getElem? hx))) (fun u' s'' q => ?_) fun _ _ e => e
      obtain ⟨J3, t', rfl⟩ := q
      refine ⟨J3.pins_of fun p hp => J3.pin p (List.mem_append_right _ (List.mem_append_left _ hp)), ?_, ?_, t', rfl⟩
      · rw [hk]
        exact (J3.pin ((g.push (seqObj "list" vs.toArray 0)).objs.size + 1, seqObj "list" kA ek) (by simp)).1
      · rw [ha]
        exact (J3.pin (g.objs.size, seqObj "list" #[] ea) (by simp)).1
    · intro s' h' tk' out c2 J kept new ko
      have eo : EachIs (fun v n => ∃ t, v = .int n t) out (byKey key ns) := by
        have e := keyedOut_each (R := fun v n => ∃ t, v = .int n t) (bs := ns) (fun n => PyData.int (key n)) (by rw [List.map_map] at ko; exact ko) (ints_is r)
        rw [dataLe_int] at e
        exact e
      have lo : out.length = ns.length := by rw [eo.length, byKey, List.length_mergeSort]
      have J1 : Inv X pins σ H s' := J.pins_of fun p hp => J.pin p (List.mem_append_right _ (List.mem_append_left _ hp))
      exact ⟨rfl, .ref _, _, inv_two (kS := (g.push (seqObj "list" vs.toArray 0)).objs.size + 1) (c := c2) (tk := tk') Ig J1 big (by show g.objs.size ≤ _; omega) kept new (by omega) (vals_is eo), rfl, h _ (Ig.hok.fresh big)⟩
variable {e : Expr} {t : TA} {tb : TE} {p lpos kpos pos : Pos}
/-- sorted(e, key=lambda k: ..) -/
theorem pe_srtLam {c P : Addr} {params : Arguments} {body : Expr} {scope : Scope} {i j : Nat} {k : Str} (hg : Gl X "sorted") (hm : X.mg "sorted" = none) (ha : PA X [e] t) (TB : TabB X.base X.mg c P) (hcode : X.env.code = .ref c) (L : Lam1 X.N i k X.env.scope scope) (hr : Room (j + 3) X.A)
    (hbody : ∀ (A : Around) (outer : List Env) (s : Shared) (H : Hp) (f c' : Addr), Room j (A.deeper (lamEnv X scope s.heap.objs.size f c')) → PE (lamCx X A outer s H (fun _ _ _ => False) scope f c') body tb)
    (hdef : defaultsOf params X.env = ([], []) := by rfl) (hbind : ∀ (q : Str) (cl : List (Str × Addr)) (pm cv ctv u : Value), bindArgs (PySem.W.kla_fn "<lambda>" q params body scope cl pm cv ctv) ⟨[u], []⟩ = pure [(k, u)] := by intros; rfl)
    (he : backTo pos (starEach [e] X.env) = (false, eval e X.env) :: backTo pos (starEach [] X.env) := by rfl) (hpl : (backTo pos (starEach [e] X.env)).any (·.1) = false := by rfl) :
    PE X (.Call (.Name "sorted" p) [e] [⟨some "key", .Lambda params body scope lpos, kpos⟩] pos) (tSrtLam X.K P (lq X) i t tb) := by
  refine ⟨fun pins s σ H Q I h => ?_⟩
  refine wpAny_Call_Name_kw (ld_blt (u := .builtin "sorted") I hg hm (by decide +kernel) ?_)
  refine PyProof.Rows.callWith_kw (thn (ha.run pos pins s σ H _ I h) fun us s1 ⟨vs, H1, I1, r1, q1⟩ => ?_) he hpl rfl rfl
  obtain ⟨v, ns, rfl, hT, q⟩ := q1
  obtain ⟨u, rfl, ru⟩ := vals1 r1
  refine PyProof.Rows.kwAll_cons (lam_one I1 TB hcode hT hdef (L.has I1.ok) fun f c' pm ctv G s2 I2 sm T2 hf hfn hfl hc => PyProof.Rows.kwAll_nil ?_)
  obtain ⟨hi, key, hkey, hq⟩ := q G sm T2
  exact sorted_lam (j := j) I2 L hr hf hfn ⟨Nat.ne_of_gt (Nat.lt_of_lt_of_le I1.lt hfl), I1.nofs hfl⟩ hc ru hi (fun u => hbind _ _ _ _ _ u) (fun A outer s H hr => hbody A outer s H f c' hr) hkey hq
/-- range(n) as a thing -/
def rRg1 : List V → Hp → VK → Prop := fun vs H Q => ∃ n : Nat, vs = [V.int n] ∧ ∀ p, H p = none → Q (.ref p) (upd H p (.rng 0 n))
theorem cr_range1 : CallR X (.type "range") rRg1 := by
  intro pins s σ H vs us Q I r h
  obtain ⟨n, rfl, q⟩ := h
  obtain ⟨u, rfl, t, rfl⟩ := vals1 r
  exact call_range_1 ⟨.ref s.heap.objs.size, upd H s.heap.objs.size (.rng 0 n), I.laid (t' := s.toks + 1 + 1) (fun b o e => Heap.get?_push_of_some _ e) (Nat.le_refl _) ⟨s.toks, t, s.toks + 1, Heap.get?_push_size _ rfl⟩, rfl, q _ (I.hok.fresh (Nat.le_refl _))⟩
end
end LxS
namespace L2
open PySem PySem.Spec PyProof.Rows
section
variable {P : Program} {w : World} {K : PySem.W.Frag} {mg : Str → Option Value} {base : Heap}
/-- Fun.ok, Fun.okX for a def whose code object is known -/
theorem Fun.okC {x qual : Str} {st : Stmt} {f c : Addr} {fd : FuncData} {N ps : List Str} {k : Nat} {sp : Sp} (F : Fun K x qual st f fd) (hc : fd.code = .ref c) (S : FnScope N ps (defScope st)) (len : ∀ vs H Q E, sp vs H Q E → vs.length = ps.length)
    (body : ∀ (A : Around) (outer : List Env) (s : Shared) (H : Hp) (vs : List V) (Q : VK) (E : XK), Room k (A.deeper (envOfC qual (defScope st) s.heap.objs.size f (.ref c))) → sp vs H Q E →
      ∃ t, PSs (cxOf CX0 P w K mg base N qual (defScope st) f (.ref c) A outer s H E).nox (defBody st) t ∧ t { nx := fun _ H' => Q .non H', rt := Q } (start N vs) H) : FnOk P w K mg base CX0 (k + 1) f fd ps sp := by
  obtain ⟨_, _, _, _, _, _, cd, _, _, rfl, lk, isC⟩ := F.ex
  obtain rfl : cd = .ref c := hc
  refine fn_of lk isC S len fun A outer s H vs Q E hr h => ?_
  obtain ⟨t, p, q⟩ := body A outer s H vs Q E hr h
  exact ⟨t, p.nox, q⟩
theorem Fun.okXC {x qual : Str} {st : Stmt} {f c : Addr} {fd : FuncData} {N ps : List Str} {k : Nat} {sp : Sp} (F : Fun K x qual st f fd) (hc : fd.code = .ref c) (S : FnScope N ps (defScope st)) (len : ∀ vs H Q E, sp vs H Q E → vs.length = ps.length)
    (body : ∀ (A : Around) (outer : List Env) (s : Shared) (H : Hp) (vs : List V) (Q : VK) (E : XK), Room k (A.deeper (envOfC qual (defScope st) s.heap.objs.size f (.ref c))) → sp vs H Q E →
      ∃ t, PSs (cxOf (L2.CX P w) P w K mg base N qual (defScope st) f (.ref c) A outer s H E) (defBody st) t ∧ t { nx := fun _ H' => Q .non H', rt := Q } (start N vs) H) : FnOk P w K mg base (L2.CX P w) (k + 1) f fd ps sp := by
  obtain ⟨_, _, _, _, _, _, cd, _, _, rfl, lk, isC⟩ := F.ex
  obtain rfl : cd = .ref c := hc
  exact fn_of lk isC S len body
end
end L2
namespace LxS
open PySem PySem.Spec PyProof.Rows L2 LamX Cm
theorem tab_ne {H : Hp} {P p : Addr} {q : Str} (t : TabS H P q) (np : H p = none) : p ≠ P := fun e => by
  obtain ⟨ps, h, _⟩ := t
  rw [e, h] at np
  cases np
theorem tab_up {H H' : Hp} {P : Addr} {q : Str} (t : TabS H P q) (s : Same H H') : TabS H' P q := t.ext fun b o h => s b o h
/-- over a range -/
theorem k_srtR {K : PySem.W.Frag} {P : Addr} {q : Str} {i m : Nat} {te tb : TE} {σ : L2.St} {H : Hp} {Q : VK} (ht : ∀ R : VK, R (.int (m : Nat)) H → te σ H R) (tab : TabS H P q) (hm : m ≤ 50000) (key : Int → Int)
    (h : ∀ H2, Same (hid [P] H) (hid [P] H2) → TabS H2 P q → (∀ j, j < m → tb (σ.set i (some (.int (j : Nat)))) H2 fun w H4 => w = .int (key (j : Nat)) ∧ H4 = H2) ∧
      ∀ a H3, H2 a = none → H a = none → Same H2 H3 → H3 a = some (.lst ((byKey key ((List.range m).map fun j => ((j : Nat) : Int))).map V.int)) → Q (.ref a) H3) : tSrtLam K P q i (tCons (tCB rRg1 (tCons te tNil)) tNil) tb σ H Q := by
  show te σ H _
  refine ht _ ?_
  refine ⟨m, rfl, fun p np => ?_⟩
  have s1 := same_new (o := .rng 0 m) np
  refine ⟨.ref p, (List.range m).map fun j => ((j : Nat) : Int), rfl, tab_up tab s1, fun H2 s2 t2 => ?_⟩
  have nP := tab_ne tab np
  have e2 : H2 p = some (.rng 0 m) := keeps s2 upd_same (by simpa using nP)
  have s02 := (hid_mono s1).trans s2
  obtain ⟨h1, h2⟩ := h H2 s02 t2
  refine ⟨⟨by rw [List.length_map, List.length_range]; omega, .inr ⟨p, m, rfl, e2, rfl⟩⟩, key, fun n hn => ?_, fun a na => ?_⟩
  · obtain ⟨j, hj, rfl⟩ := List.mem_map.mp hn
    exact h1 j (List.mem_range.mp hj)
  · exact h2 a _ na (fresh_hid s02 na (by simpa using tab_ne t2 na)) (same_new na) upd_same
/-- over a list -/
theorem k_srtL {K : PySem.W.Frag} {P : Addr} {q : Str} {i : Nat} {te tb : TE} {σ : L2.St} {H : Hp} {Q : VK} {l : Addr} {ns : List Int} (ht : ∀ R : VK, R (.ref l) H → te σ H R) (tab : TabS H P q) (hl : SqL K H l (ns.map V.int)) (hm : ns.length ≤ 50000) (key : Int → Int)
    (h : ∀ H2, Same (hid [P] H) (hid [P] H2) → TabS H2 P q → (∀ n ∈ ns, tb (σ.set i (some (.int n))) H2 fun w H4 => w = .int (key n) ∧ H4 = H2) ∧
      ∀ a H3, H2 a = none → H a = none → Same H2 H3 → H3 a = some (.lst ((byKey key ns).map V.int)) → Q (.ref a) H3) : tSrtLam K P q i (tCons te tNil) tb σ H Q := by
  show te σ H _
  refine ht _ ?_
  refine ⟨.ref l, ns, rfl, tab, fun H2 s2 t2 => ?_⟩
  obtain ⟨h1, h2⟩ := h H2 s2 t2
  have sP : Same (hid [P] H) H2 := s2.trans (hid_same _ _)
  have hP : SqL K (hid [P] H) l (ns.map V.int) := by
    obtain ⟨ps, e, _⟩ := tab
    rcases hl with hl | hl
    · refine .inl ?_
      rcases hl with hl | ⟨o, hl⟩
      · exact .inl (by rw [hid_ne (by simpa using ne_of hl e (by simp))]; exact hl)
      · exact .inr ⟨o, by rw [hid_ne (by simpa using ne_of hl e (by simp))]; exact hl⟩
    · exact .inr hl
  refine ⟨⟨by omega, .inl ⟨l, rfl, sP.seq hP⟩⟩, key, h1, fun a na => ?_⟩
  exact h2 a _ na (fresh_hid s2 na (by simpa using tab_ne t2 na)) (same_new na) upd_same
theorem rd_tab {H : Hp} {P a : Addr} {q : Str} {u : HO} (t : TabS H P q) (nu : ∀ ps, u ≠ .tbl ps) (h : Rd H a u) : Rd (hid [P] H) a u := by
  obtain ⟨ps, e, _⟩ := t
  rcases h with h | ⟨o, h⟩
  · exact .inl (by rw [hid_ne (by simpa using ne_of h e (nu ps))]; exact h)
  · exact .inr ⟨o, by rw [hid_ne (by simpa using ne_of h e (by simp))]; exact h⟩
theorem sql_tab {K : PySem.W.Frag} {H : Hp} {P a : Addr} {q : Str} {xs : List V} (t : TabS H P q) (h : SqL K H a xs) : SqL K (hid [P] H) a xs := h.imp (rd_tab t (by simp)) id
theorem sqt_tab {K : PySem.W.Frag} {H : Hp} {P a : Addr} {q : Str} {xs : List V} (t : TabS H P q) (h : SqT K H a xs) : SqT K (hid [P] H) a xs := h.imp (rd_tab t (by simp)) id
mutual
/-- data has no table in it -/
theorem dp_tab {K : PySem.W.Frag} {H : Hp} {P : Addr} {q : Str} (t : TabS H P q) : ∀ {v : V} {d : PyData}, Dp K H v d → Dp K (hid [P] H) v d
  | _, _, .non => .non
  | _, _, .bl b => .bl b
  | _, _, .int i => .int i
  | _, _, .str x => .str x
  | _, _, .lst s r => .lst (sql_tab t s) (dpa_tab t r)
  | _, _, .tup s r => .tup (sqt_tab t s) (dpa_tab t r)
theorem dpa_tab {K : PySem.W.Frag} {H : Hp} {P : Addr} {q : Str} (t : TabS H P q) : ∀ {vs : List V} {ds : List PyData}, DpAll K H vs ds → DpAll K (hid [P] H) vs ds
  | _, _, .nil => .nil
  | _, _, .cons h r => .cons (dp_tab t h) (dpa_tab t r)
end
/-- another thing is written -/
theorem tab_mut {H : Hp} {P p : Addr} {q : Str} {o o' : HO} (t : TabS H P q) (np : p ≠ P) (hp : H p = some o) (no : ∀ φ, o ≠ .ext φ := by intro _ z; cases z) : TabS (upd H p o') P q := by
  obtain ⟨ps, e, tr, kn⟩ := t
  refine ⟨ps, by rw [upd_ne (Ne.symm np)]; exact e, tr, fun pos cv hc => ?_⟩
  obtain ⟨c, e1, e2⟩ := kn pos cv hc
  refine ⟨c, e1, ?_⟩
  rw [upd_ne]
  · exact e2
  · intro z
    rw [z, hp] at e2
    exact no _ (Option.some.inj e2)
end LxS

namespace Pf
open PySem PySem.Spec PyProof.Rows L2 Cm
local macro_rules | `(tactic| wtm_at "smh") => `(tactic| with_reducible first
  | assumption
  | (refine Same.trans ?_ (by assumption); wtm_at "smx")
  | (refine Same.trans ?_ (hid_mono (by assumption)); wtm_at "smx"))
local macro_rules | `(tactic| wtm_at "smx") => `(tactic| with_reducible first
  | exact Same.refl _
  | assumption
  | exact hid_same _ _
  | (refine Same.trans ?_ (by assumption); wtm_at "smx")
  | (refine Same.trans ?_ (hid_mono (by assumption)); wtm_at "smx")
  | (apply hid_back; wtm_at "smh"))
local macro_rules | `(tactic| wtm_at "sm") => `(tactic| wtm_at "smx")
local macro_rules | `(tactic| wtm_at "at") => `(tactic| with_reducible first
  | assumption
  | exact upd_same
  | (refine at_same (by assumption) ?_; wtm_at "smx"))
local macro_rules | `(tactic| wtm_at "le") => `(tactic| with_reducible first
  | assumption
  | (refine Le.same (by assumption) ?_; wtm_at "smx"))
local macro_rules | `(tactic| wtm_at "dp") => `(tactic| with_reducible first
  | assumption
  | exact .int _
  | exact .str _
  | exact .bl _
  | (refine dp_same ?_ (by assumption); wtm_at "smx")
  | (refine dpa_same ?_ (by assumption); wtm_at "smx")
  | (refine dpI_at (by assumption) ?_; wtm_at "smx")
  | (refine dpP_at (by assumption) ?_; wtm_at "smx"))
local macro_rules | `(tactic| wtm_at "sq") => `(tactic| with_reducible first
  | assumption
  | exact sl (by assumption)
  | exact stp (by assumption)
  | (refine sl_at (by assumption) ?_; wtm_at "smx")
  | (refine st_at (by assumption) ?_; wtm_at "smx")
  | (refine Same.seq ?_ (by assumption); wtm_at "smx")
  | (refine same_seqT ?_ (by assumption); wtm_at "smx")
  | ((show SqL _ (upd _ _ _) _ _); exact sl upd_same)
  | ((show SqT _ (upd _ _ _) _ _); exact stp upd_same))
local macro_rules | `(tactic| wtm_at "cI") => `(tactic| first
  | (refine Or.inl ⟨?_, ?_⟩ <;> omega)
  | (refine Or.inr ⟨?_, ?_⟩ <;> omega)
  | (refine ⟨?_, ?_⟩ <;> omega)
  | decide)
local macro_rules | `(tactic| wtm_at "pf") => `(tactic| first | omega | decide)
local macro_rules | `(tactic| wtm_at "s2") => `(tactic| with_reducible first
  | ((show ite _ _ _); first
    | refine k_itDT (by with_unfolding_all wtm_at "pf") ?_
    | refine k_itDF (by with_unfolding_all wtm_at "pf") ?_
    | refine k_itNT (by with_unfolding_all wtm_at "pf") ?_
    | refine k_itNF (by with_unfolding_all wtm_at "pf") ?_)
  | ((show rLenX _ _ _ _); first
    | refine k_len0 (by assumption) ?_
    | refine k_lenI (by wtm_at "sq") ?_
    | refine k_len (by wtm_at "sq") ?_)
  | ((show gTup _ _ _ _ _ _ _); refine k_gtup (by wtm_at "sq") (by with_unfolding_all rfl) ?_)
  | ((show rIxT _ (V.ref _) (V.int _) _ _); refine k_ixT (by wtm_at "sq") (by with_unfolding_all rfl) ?_)
  | ((show wipe _ _ = wipe _ _ ∧ _); refine k_wipe (by with_unfolding_all rfl) ?_)
  | ((show rIn _ _ _ _ _ _); first
    | refine k_inI (by wtm_at "sq") ?_
    | refine k_notInI (by wtm_at "sq") ?_)
  | ((show rIsi _ _ _ _); refine k_isiL (by wtm_at "sq") ?_)
  | ((show xMod _ _ _ _); refine k_mod (by with_unfolding_all first | decide | omega) ?_)
  | ((show xMul _ _ _ _); refine k_mul (by with_unfolding_all wtm_at "cI") ?_)
  | ((show xDiv _ _ _ _); refine k_div (by with_unfolding_all wtm_at "cI") ?_)
  | ((show xPow _ _ _ _); refine k_pow (by with_unfolding_all exact ⟨by decide, by decide, by decide⟩) ?_)
  | ((show rMinT _ _ _ _); refine k_minT (by wtm_at "sq") ?_)
  | ((show rMaxT _ _ _ _); refine k_maxT (by wtm_at "sq") ?_)
  | ((show ∃ j' : Int, [V.int _] = [.int j'] ∧ _); refine k_rj1 (by with_unfolding_all omega) (by with_unfolding_all omega) ?_)
  | ((show ∃ i' j' : Int, [V.int _, V.int _] = [.int i', .int j'] ∧ _); refine k_rj2 (by with_unfolding_all omega) ?_))
local macro_rules | `(tactic| wtm_at "s1") => `(tactic| first
  | refine go ?_
  | wtm_at "s2")
local macro_rules | `(tactic| wtm_at "s") => `(tactic| repeat wtm_at "s1")
def topS (i : Nat) : Stmt := PySem.Challenge.pw_tiehues_k70_hues_on_rings.main.body.getD i (.Pass ⟨0, 0, 0, 0⟩)
abbrev s_is_tree : Stmt := topS 7
theorem sc_is_tree : FnScope ["parents", "k"] ["parents"] (defScope s_is_tree) := ⟨rfl, rfl, rfl, by decide +kernel, rfl, by decide +kernel, by decide +kernel⟩
abbrev s_look_net : Stmt := topS 8
theorem sc_look_net : FnScope ["net", "kind", "size", "right"] ["net"] (defScope s_look_net) := ⟨rfl, rfl, rfl, by decide +kernel, rfl, by decide +kernel, by decide +kernel⟩
abbrev s_must_be_kind : Stmt := topS 9
theorem sc_must_be_kind : FnScope ["net", "kind"] ["net", "kind"] (defScope s_must_be_kind) := ⟨rfl, rfl, rfl, by decide +kernel, rfl, by decide +kernel, by decide +kernel⟩
abbrev s_places_of : Stmt := topS 10
theorem sc_places_of : FnScope ["net"] ["net"] (defScope s_places_of) := ⟨rfl, rfl, rfl, by decide +kernel, rfl, by decide +kernel, by decide +kernel⟩
abbrev s_ties_many : Stmt := topS 11
theorem sc_ties_many : FnScope ["net"] ["net"] (defScope s_ties_many) := ⟨rfl, rfl, rfl, by decide +kernel, rfl, by decide +kernel, by decide +kernel⟩
abbrev s_is_way : Stmt := topS 12
theorem sc_is_way : FnScope ["net", "way", "a", "b"] ["net", "way"] (defScope s_is_way) := ⟨rfl, rfl, rfl, by decide +kernel, rfl, by decide +kernel, by decide +kernel⟩
abbrev s_ties_on : Stmt := topS 13
theorem sc_ties_on : FnScope ["net", "way", "a", "b", "found"] ["net", "way"] (defScope s_ties_on) := ⟨rfl, rfl, rfl, by decide +kernel, rfl, by decide +kernel, by decide +kernel⟩
abbrev s_must_be_ways : Stmt := topS 14
theorem sc_must_be_ways : FnScope ["net", "ways", "k"] ["net", "ways"] (defScope s_must_be_ways) := ⟨rfl, rfl, rfl, by decide +kernel, rfl, by decide +kernel, by decide +kernel⟩
abbrev s_look_ways : Stmt := topS 15
theorem sc_look_ways : FnScope ["net", "ways"] ["net", "ways"] (defScope s_look_ways) := ⟨rfl, rfl, rfl, by decide +kernel, rfl, by decide +kernel, by decide +kernel⟩
abbrev s_look_ring : Stmt := topS 16
theorem sc_look_ring : FnScope ["net"] ["net"] (defScope s_look_ring) := ⟨rfl, rfl, rfl, by decide +kernel, rfl, by decide +kernel, by decide +kernel⟩
abbrev s_counted : Stmt := topS 17
theorem sc_counted : FnScope ["net", "ways", "found", "way", "tie"] ["net", "ways"] (defScope s_counted) := ⟨rfl, rfl, rfl, by decide +kernel, rfl, by decide +kernel, by decide +kernel⟩
abbrev s_have_common : Stmt := topS 19
theorem sc_have_common : FnScope ["one", "other", "thing"] ["one", "other"] (defScope s_have_common) := ⟨rfl, rfl, rfl, by decide +kernel, rfl, by decide +kernel, by decide +kernel⟩
abbrev s_cut_at : Stmt := topS 21
theorem sc_cut_at : FnScope ["ways", "each"] ["ways", "each"] (defScope s_cut_at) := ⟨rfl, rfl, rfl, by decide +kernel, rfl, by decide +kernel, by decide +kernel⟩
abbrev s_ring_hues : Stmt := topS 22
theorem sc_ring_hues : FnScope ["net", "ways", "cut", "lain", "over", "others", "hues", "k", "taken", "way", "j", "hue"] ["net", "ways"] (defScope s_ring_hues) := ⟨rfl, rfl, rfl, by decide +kernel, rfl, by decide +kernel, by decide +kernel⟩
abbrev s_law_mix : Stmt := topS 24
theorem sc_law_mix : FnScope ["_law_number", "_law_k", "_law_mixed"] ["_law_number", "_law_k"] (defScope s_law_mix) := ⟨rfl, rfl, rfl, by decide +kernel, rfl, by decide +kernel, by decide +kernel⟩
abbrev s_law_left : Stmt := topS 25
theorem sc_law_left : FnScope ["_law_cell"] ["_law_cell"] (defScope s_law_left) := ⟨rfl, rfl, rfl, by decide +kernel, rfl, by decide +kernel, by decide +kernel⟩
abbrev s_law_draw : Stmt := topS 26
theorem sc_law_draw : FnScope ["_law_left_here", "_law_base", "_law_mixed", "_law_digit"] ["_law_left_here", "_law_base"] (defScope s_law_draw) := ⟨rfl, rfl, rfl, by decide +kernel, rfl, by decide +kernel, by decide +kernel⟩
abbrev s_law_whole : Stmt := topS 27
theorem sc_law_whole : FnScope ["_law_found"] ["_law_found"] (defScope s_law_whole) := ⟨rfl, rfl, rfl, by decide +kernel, rfl, by decide +kernel, by decide +kernel⟩
abbrev s_law_way : Stmt := topS 28
theorem sc_law_way : FnScope ["_law_left_here", "_law_many", "_law_a", "_law_b"] ["_law_left_here", "_law_many"] (defScope s_law_way) := ⟨rfl, rfl, rfl, by decide +kernel, rfl, by decide +kernel, by decide +kernel⟩
abbrev s_law_ties : Stmt := topS 29
theorem sc_law_ties : FnScope ["_law_many", "_law_way_here", "_law_k"] ["_law_many", "_law_way_here"] (defScope s_law_ties) := ⟨rfl, rfl, rfl, by decide +kernel, rfl, by decide +kernel, by decide +kernel⟩
abbrev s_law_rounds : Stmt := topS 30
theorem sc_law_rounds : FnScope ["_law_left_here", "_law_many", "_law_most", "_law_ways_here", "_law_k", "_law_first", "_law_other", "_law_spots", "_law_j"] ["_law_left_here", "_law_many", "_law_most"] (defScope s_law_rounds) := ⟨rfl, rfl, rfl, by decide +kernel, rfl, by decide +kernel, by decide +kernel⟩
abbrev s_law_ways : Stmt := topS 31
theorem sc_law_ways : FnScope ["_law_left_here", "_law_many", "_law_k"] ["_law_left_here", "_law_many"] (defScope s_law_ways) := ⟨rfl, rfl, rfl, by decide +kernel, rfl, by decide +kernel, by decide +kernel⟩
abbrev s_law_right : Stmt := topS 32
theorem sc_law_right : FnScope ["_law_many", "_law_ways_here", "_law_hues", "_law_lain", "_law_one", "_law_other", "_law_way_here", "_law_tie"] ["_law_many", "_law_ways_here", "_law_hues"] (defScope s_law_right) := ⟨rfl, rfl, rfl, by decide +kernel, rfl, by decide +kernel, by decide +kernel⟩
abbrev s_law_bound : Stmt := topS 33
theorem sc_law_bound : FnScope ["_law_many", "_law_ways_here", "_law_each", "_law_way_here", "_law_tie"] ["_law_many", "_law_ways_here"] (defScope s_law_bound) := ⟨rfl, rfl, rfl, by decide +kernel, rfl, by decide +kernel, by decide +kernel⟩
abbrev s_law : Stmt := topS 34
theorem sc_law : FnScope ["_law_script", "_law_cell", "_law_left_here", "_law_many", "_law_ways_here", "_law_handed", "_law_kept", "_law_again", "_law_told"] ["_law_script"] (defScope s_law) := ⟨rfl, rfl, rfl, by decide +kernel, rfl, by decide +kernel, by decide +kernel⟩
structure Ad where
  a_is_tree : Addr
  d_is_tree : FuncData
  a_look_net : Addr
  d_look_net : FuncData
  a_must_be_kind : Addr
  d_must_be_kind : FuncData
  a_places_of : Addr
  d_places_of : FuncData
  a_ties_many : Addr
  d_ties_many : FuncData
  a_is_way : Addr
  d_is_way : FuncData
  a_ties_on : Addr
  d_ties_on : FuncData
  a_must_be_ways : Addr
  d_must_be_ways : FuncData
  a_look_ways : Addr
  d_look_ways : FuncData
  a_look_ring : Addr
  d_look_ring : FuncData
  a_counted : Addr
  d_counted : FuncData
  a_have_common : Addr
  d_have_common : FuncData
  a_cut_at : Addr
  d_cut_at : FuncData
  a_ring_hues : Addr
  d_ring_hues : FuncData
  a_law_mix : Addr
  d_law_mix : FuncData
  a_law_left : Addr
  d_law_left : FuncData
  a_law_draw : Addr
  d_law_draw : FuncData
  a_law_whole : Addr
  d_law_whole : FuncData
  a_law_way : Addr
  d_law_way : FuncData
  a_law_ties : Addr
  d_law_ties : FuncData
  a_law_rounds : Addr
  d_law_rounds : FuncData
  a_law_ways : Addr
  d_law_ways : FuncData
  a_law_right : Addr
  d_law_right : FuncData
  a_law_bound : Addr
  d_law_bound : FuncData
  a_law : Addr
  d_law : FuncData
  l_ring_hues : Addr
  p_ring_hues : Addr
structure Txt (K : PySem.W.Frag) (mg : Str → Option Value) (A : Ad) : Prop where
  g_is_tree : mg "is_tree" = some (.ref A.a_is_tree)
  F_is_tree : Fun K "is_tree" "is_tree" s_is_tree A.a_is_tree A.d_is_tree
  b_is_tree : Binds K A.d_is_tree ["parents"] []
  g_look_net : mg "look_net" = some (.ref A.a_look_net)
  F_look_net : Fun K "look_net" "look_net" s_look_net A.a_look_net A.d_look_net
  b_look_net : Binds K A.d_look_net ["net"] []
  g_must_be_kind : mg "must_be_kind" = some (.ref A.a_must_be_kind)
  F_must_be_kind : Fun K "must_be_kind" "must_be_kind" s_must_be_kind A.a_must_be_kind A.d_must_be_kind
  b_must_be_kind : Binds K A.d_must_be_kind ["net", "kind"] []
  g_places_of : mg "places_of" = some (.ref A.a_places_of)
  F_places_of : Fun K "places_of" "places_of" s_places_of A.a_places_of A.d_places_of
  b_places_of : Binds K A.d_places_of ["net"] []
  g_ties_many : mg "ties_many" = some (.ref A.a_ties_many)
  F_ties_many : Fun K "ties_many" "ties_many" s_ties_many A.a_ties_many A.d_ties_many
  b_ties_many : Binds K A.d_ties_many ["net"] []
  g_is_way : mg "is_way" = some (.ref A.a_is_way)
  F_is_way : Fun K "is_way" "is_way" s_is_way A.a_is_way A.d_is_way
  b_is_way : Binds K A.d_is_way ["net", "way"] []
  g_ties_on : mg "ties_on" = some (.ref A.a_ties_on)
  F_ties_on : Fun K "ties_on" "ties_on" s_ties_on A.a_ties_on A.d_ties_on
  b_ties_on : Binds K A.d_ties_on ["net", "way"] []
  g_must_be_ways : mg "must_be_ways" = some (.ref A.a_must_be_ways)
  F_must_be_ways : Fun K "must_be_ways" "must_be_ways" s_must_be_ways A.a_must_be_ways A.d_must_be_ways
  b_must_be_ways : Binds K A.d_must_be_ways ["net", "ways"] []
  g_look_ways : mg "look_ways" = some (.ref A.a_look_ways)
  F_look_ways : Fun K "look_ways" "look_ways" s_look_ways A.a_look_ways A.d_look_ways
  b_look_ways : Binds K A.d_look_ways ["net", "ways"] []
  g_look_ring : mg "look_ring" = some (.ref A.a_look_ring)
  F_look_ring : Fun K "look_ring" "look_ring" s_look_ring A.a_look_ring A.d_look_ring
  b_look_ring : Binds K A.d_look_ring ["net"] []
  g_counted : mg "counted" = some (.ref A.a_counted)
  F_counted : Fun K "counted" "counted" s_counted A.a_counted A.d_counted
  b_counted : Binds K A.d_counted ["net", "ways"] []
  g_have_common : mg "have_common" = some (.ref A.a_have_common)
  F_have_common : Fun K "have_common" "have_common" s_have_common A.a_have_common A.d_have_common
  b_have_common : Binds K A.d_have_common ["one", "other"] []
  g_cut_at : mg "cut_at" = some (.ref A.a_cut_at)
  F_cut_at : Fun K "cut_at" "cut_at" s_cut_at A.a_cut_at A.d_cut_at
  b_cut_at : Binds K A.d_cut_at ["ways", "each"] []
  g_ring_hues : mg "ring_hues" = some (.ref A.a_ring_hues)
  F_ring_hues : Fun K "ring_hues" "ring_hues" s_ring_hues A.a_ring_hues A.d_ring_hues
  b_ring_hues : Binds K A.d_ring_hues ["net", "ways"] []
  g_law_mix : mg "_law_mix" = some (.ref A.a_law_mix)
  F_law_mix : Fun K "_law_mix" "_law_mix" s_law_mix A.a_law_mix A.d_law_mix
  b_law_mix : Binds K A.d_law_mix ["_law_number", "_law_k"] []
  g_law_left : mg "_law_left" = some (.ref A.a_law_left)
  F_law_left : Fun K "_law_left" "_law_left" s_law_left A.a_law_left A.d_law_left
  b_law_left : Binds K A.d_law_left ["_law_cell"] []
  g_law_draw : mg "_law_draw" = some (.ref A.a_law_draw)
  F_law_draw : Fun K "_law_draw" "_law_draw" s_law_draw A.a_law_draw A.d_law_draw
  b_law_draw : Binds K A.d_law_draw ["_law_left_here", "_law_base"] []
  g_law_whole : mg "_law_whole" = some (.ref A.a_law_whole)
  F_law_whole : Fun K "_law_whole" "_law_whole" s_law_whole A.a_law_whole A.d_law_whole
  b_law_whole : Binds K A.d_law_whole ["_law_found"] []
  g_law_way : mg "_law_way" = some (.ref A.a_law_way)
  F_law_way : Fun K "_law_way" "_law_way" s_law_way A.a_law_way A.d_law_way
  b_law_way : Binds K A.d_law_way ["_law_left_here", "_law_many"] []
  g_law_ties : mg "_law_ties" = some (.ref A.a_law_ties)
  F_law_ties : Fun K "_law_ties" "_law_ties" s_law_ties A.a_law_ties A.d_law_ties
  b_law_ties : Binds K A.d_law_ties ["_law_many", "_law_way_here"] []
  g_law_rounds : mg "_law_rounds" = some (.ref A.a_law_rounds)
  F_law_rounds : Fun K "_law_rounds" "_law_rounds" s_law_rounds A.a_law_rounds A.d_law_rounds
  b_law_rounds : Binds K A.d_law_rounds ["_law_left_here", "_law_many", "_law_most"] []
  g_law_ways : mg "_law_ways" = some (.ref A.a_law_ways)
  F_law_ways : Fun K "_law_ways" "_law_ways" s_law_ways A.a_law_ways A.d_law_ways
  b_law_ways : Binds K A.d_law_ways ["_law_left_here", "_law_many"] []
  g_law_right : mg "_law_right" = some (.ref A.a_law_right)
  F_law_right : Fun K "_law_right" "_law_right" s_law_right A.a_law_right A.d_law_right
  b_law_right : Binds K A.d_law_right ["_law_many", "_law_ways_here", "_law_hues"] []
  g_law_bound : mg "_law_bound" = some (.ref A.a_law_bound)
  F_law_bound : Fun K "_law_bound" "_law_bound" s_law_bound A.a_law_bound A.d_law_bound
  b_law_bound : Binds K A.d_law_bound ["_law_many", "_law_ways_here"] []
  g_law : mg "law" = some (.ref A.a_law)
  F_law : Fun K "law" "law" s_law A.a_law A.d_law
  b_law : Binds K A.d_law ["_law_script"] []
  c_MOST_PLACES : mg "MOST_PLACES" = some (.int 60 (g_tok mg "MOST_PLACES"))
  z_bool : mg "bool" = none
  z_int : mg "int" = none
  z_isinstance : mg "isinstance" = none
  z_len : mg "len" = none
  z_list : mg "list" = none
  z_max : mg "max" = none
  z_min : mg "min" = none
  z_range : mg "range" = none
  z_set : mg "set" = none
  z_sorted : mg "sorted" = none
  L_ring_hues : A.d_ring_hues.code = .ref A.l_ring_hues
/-- the tables of the defs that make a lambda -/
class TbOk (mg : Str → Option Value) (base : Heap) (A : Ad) : Prop where
  t_ring_hues : LamX.TabB base mg A.l_ring_hues A.p_ring_hues
abbrev lq_ring_hues : Str := Str.ofString "ring_hues.<locals>." ++ "<lambda>"
abbrev TabsH (A : Ad) (H : Hp) : Prop := LamX.TabS H A.p_ring_hues lq_ring_hues
/-! ### nets -/
inductive Net where
  | line (n : Int)
  | ring (n : Int)
  | tree (ps : List Int)
def Net.kind : Net → Str
  | .line _ => Str.ofString "line"
  | .ring _ => Str.ofString "ring"
  | .tree _ => Str.ofString "tree"
def Net.size : Net → PyData
  | .line n => .int n
  | .ring n => .int n
  | .tree ps => dInts ps
abbrev Net.d (N : Net) : PyData := .tuple [.str N.kind, N.size]
def TreeOk (ps : List Int) : Prop := 1 ≤ ps.length ∧ ps.length < 60 ∧ ∀ k : Nat, k < ps.length → 0 ≤ ps.getD k 0 ∧ ps.getD k 0 ≤ k
def Net.ok : Net → Prop
  | .line n => 2 ≤ n ∧ n ≤ 60
  | .ring n => 3 ≤ n ∧ n ≤ 60
  | .tree ps => TreeOk ps
def Net.places : Net → Int
  | .line n => n
  | .ring n => n
  | .tree ps => ps.length + 1
theorem net_str {s t : Str} (h : decide (V.str s = V.str t) = true) : s = t := V.str.inj (of_decide_eq_true h)
/-- a net's tuple -/
theorem dp_net {K : PySem.W.Frag} {H : Hp} {v : V} {N : Net} (h : Dp K H v N.d) : ∃ a y, v = .ref a ∧ SqT K H a [.str N.kind, y] ∧ Dp K H y N.size := by
  obtain ⟨a, x, y, rfl, hs, hx, hy⟩ := dp_tup2 h
  obtain rfl := dp_str hx
  exact ⟨a, y, rfl, hs, hy⟩
theorem k_eqS {s t : Str} {H : Hp} {Q : VK} (h : Q (.bl (decide (s = t))) H) : rEq (.str s) (.str t) H Q := ⟨rfl, by
  have e : decide (V.str s = V.str t) = decide (s = t) := by
    by_cases c : s = t
    · rw [decide_eq_true c, decide_eq_true (by rw [c])]
    · rw [decide_eq_false c, decide_eq_false (fun z => c (V.str.inj z))]
  rw [e]; exact h⟩
theorem k_neS {s t : Str} {H : Hp} {Q : VK} (h : Q (.bl (!decide (s = t))) H) : rNe (.str s) (.str t) H Q := ⟨rfl, by
  have e : decide (V.str s = V.str t) = decide (s = t) := by
    by_cases c : s = t
    · rw [decide_eq_true c, decide_eq_true (by rw [c])]
    · rw [decide_eq_false c, decide_eq_false (fun z => c (V.str.inj z))]
  rw [e]; exact h⟩
theorem s_lt : decide (Str.ofString "line" = Str.ofString "tree") = false := by decide +kernel
theorem s_rt : decide (Str.ofString "ring" = Str.ofString "tree") = false := by decide +kernel
theorem s_lr : decide (Str.ofString "line" = Str.ofString "ring") = false := by decide +kernel
theorem s_rl : decide (Str.ofString "ring" = Str.ofString "line") = false := by decide +kernel
theorem s_tl : decide (Str.ofString "tree" = Str.ofString "line") = false := by decide +kernel
theorem s_tr : decide (Str.ofString "tree" = Str.ofString "ring") = false := by decide +kernel
theorem s_same (s : Str) : decide (s = s) = true := decide_eq_true rfl
/-- how far t lies up from a on a ring of n -/
def up (n a t : Int) : Int := if a ≤ t then t - a else t - a + n
/-- x lies in the part of the tree that hangs by k -/
def below (ps : List Int) (k : Nat) : Nat → Bool
  | 0 => decide (k = 0)
  | x + 1 => decide (k = x + 1) || (decide (k < x + 1) && if h : (ps.getD x 0).toNat < x + 1 then below ps k (ps.getD x 0).toNat else false)
termination_by x => x
decreasing_by exact h
def OnTie : Net → Int → Int → Int → Prop
  | .line _, a, b, t => min a b ≤ t ∧ t < max a b
  | .ring n, a, b, t => 0 ≤ t ∧ t < n ∧ up n a t < up n a b
  | .tree ps, a, b, t => 0 ≤ t ∧ t < ps.length ∧ below ps (t.toNat + 1) a.toNat ≠ below ps (t.toNat + 1) b.toNat
def Net.far : Net → Int → Int → List Int → Prop
  | .line _, a, b, ns => (ns.length : Int) = max a b - min a b
  | .ring n, a, b, ns => (ns.length : Int) = up n a b
  | .tree _, _, _, ns => ns.length < 120
def isWay (N : Net) (a b : Int) : Prop := a ≠ b ∧ 0 ≤ a ∧ 0 ≤ b ∧ a < N.places ∧ b < N.places
instance (N : Net) (a b : Int) : Decidable (isWay N a b) := by unfold isWay; infer_instance
structure TiesOf (N : Net) (a b : Int) (ns : List Int) : Prop where
  srt : ns.Pairwise (· < ·)
  mem : ∀ t, t ∈ ns ↔ OnTie N a b t
  far : N.far a b ns
instance (N : Net) (a b t : Int) : Decidable (OnTie N a b t) := by
  cases N <;> unfold OnTie <;> infer_instance
def Net.ties : Net → Nat
  | .line n => (n - 1).toNat
  | .ring n => n.toNat
  | .tree ps => ps.length
/-- how many of the ways lie on a tie -/
def cnt (N : Net) (ws : List (Int × Int)) (t : Int) : Nat := (ws.filter fun w => decide (OnTie N w.1 w.2 t)).length
def loadsOf (N : Net) (ws : List (Int × Int)) : List Int := (List.range N.ties).map fun t => (cnt N ws (t : Nat) : Int)
theorem on_range {N : Net} (ok : N.ok) {a b t : Int} (hw : isWay N a b) (h : OnTie N a b t) : 0 ≤ t ∧ t < N.ties := by
  cases N with
  | line n =>
    obtain ⟨h1, h2⟩ := h
    obtain ⟨w1, w2, w3, w4, w5⟩ := hw
    have w4' : a < n := w4
    have w5' : b < n := w5
    show 0 ≤ t ∧ t < ((n - 1).toNat : Int)
    omega
  | ring n =>
    obtain ⟨h1, h2, _⟩ := h
    have : 3 ≤ n := ok.1
    show 0 ≤ t ∧ t < (n.toNat : Int)
    omega
  | tree ps =>
    obtain ⟨h1, h2, _⟩ := h
    exact ⟨h1, h2⟩
theorem ties_le {N : Net} (ok : N.ok) : N.ties ≤ 60 ∧ 1 ≤ N.ties := by
  cases N with
  | line n => obtain ⟨h1, h2⟩ := ok; show (n - 1).toNat ≤ 60 ∧ 1 ≤ (n - 1).toNat; omega
  | ring n => obtain ⟨h1, h2⟩ := ok; show n.toNat ≤ 60 ∧ 1 ≤ n.toNat; omega
  | tree ps => obtain ⟨h1, h2, _⟩ := ok; show ps.length ≤ 60 ∧ 1 ≤ ps.length; omega
theorem cnt_take {N : Net} {ws : List (Int × Int)} {i : Nat} {w : Int × Int} (h : ws[i]? = some w) (t : Int) : cnt N (ws.take (i + 1)) t = cnt N (ws.take i) t + if OnTie N w.1 w.2 t then 1 else 0 := by
  unfold cnt
  rw [List.take_add_one, h, List.filter_append, List.length_append]
  by_cases c : OnTie N w.1 w.2 t <;> simp [c]

variable {P : Program} {w : World} {K : PySem.W.Frag} {mg : Str → Option Value} {base : Heap} {A : Ad} [TbOk mg base A]
def pr_is_tree (K : PySem.W.Frag) (v0 : V) (H : Hp) (Q : VK) (_ : XK) : Prop := ∃ ps, Dp K H v0 (dInts ps) ∧ ps.length ≤ 10000 ∧ ∀ b, (b = true ↔ TreeOk ps) → Q (.bl b) H
def t_is_tree (K : PySem.W.Frag) : TS :=
  (tSeq (tIfS (tOr (tTest (tOp xLt (tCB (rLenX K) (tCons (tVar 0) tNil)) (tC (.int 1)))) (tTest (tOp xGe (tCB (rLenX K) (tCons (tVar 0) tNil)) (tC (.int 60))))) (tRet (tC (.bl false))) tNext)
    (tSeq (tFor (iRng1 (tCons (tCB (rLenX K) (tCons (tVar 0) tNil)) tNil)) (gName 1)
      (tIfS (tOr (tTest (tOp xLt (tOp (rIxL K) (tVar 0) (tVar 1)) (tC (.int 0)))) (tTest (tOp xGt (tOp (rIxL K) (tVar 0) (tVar 1)) (tVar 1)))) (tRet (tC (.bl false))) tNext))
    (tRet (tC (.bl true)))))
theorem pure_is_tree {v0 : V} {H : Hp} {Q : VK} {E : XK} (h : pr_is_tree K v0 H Q E) : t_is_tree K ⟨fun _ H' => Q .non H', Q, fun _ _ => False, fun _ _ => False⟩ [some v0, none] H := by
  obtain ⟨ps, hp, hz, q⟩ := h
  obtain ⟨a, rfl, ha⟩ := dp_ints hp
  unfold t_is_tree
  wtm_at "s"
  refine k_it (fun c1 => ?_) (fun c1 => ?_)
  · wtm_at "s"
    exact q _ (ff_iff fun z => absurd z.1 (by omega))
  wtm_at "s"
  refine k_it (fun c2 => ?_) (fun c2 => ?_)
  · wtm_at "s"
    exact q _ (ff_iff fun z => absurd z.2.1 (by omega))
  wtm_at "s"
  refine forR (fun i σ' H' => H' = H ∧ (∃ k, σ' = [some (.ref a), k]) ∧ ∀ k : Nat, k < i → 0 ≤ ps.getD k 0 ∧ ps.getD k 0 ≤ k) ⟨rfl, ⟨none, rfl⟩, fun k hk => absurd hk (by omega)⟩ ?_ ?_
  · rintro i σ' H' hi ⟨rfl, ⟨k, rfl⟩, hk⟩
    wtm_at "s"
    refine k_ixI ha (by omega) (by omega) ?_
    wtm_at "s"
    rw [show (0 + (i : Int)).toNat = i by omega]
    refine k_it (fun c3 => ?_) (fun c3 => ?_)
    · wtm_at "s"
      exact q _ (ff_iff fun z => absurd (z.2.2 i (by omega)).1 (by omega))
    wtm_at "s"
    refine k_ixI ha (by omega) (by omega) ?_
    wtm_at "s"
    rw [show (0 + (i : Int)).toNat = i by omega]
    refine k_it (fun c4 => ?_) (fun c4 => ?_)
    · wtm_at "s"
      exact q _ (ff_iff fun z => absurd (z.2.2 i (by omega)).2 (by omega))
    wtm_at "s"
    refine ⟨rfl, ⟨_, rfl⟩, fun k hk' => ?_⟩
    by_cases e : k = i
    · subst e; omega
    · exact hk k (by omega)
  · rintro σ' H' ⟨rfl, ⟨k, rfl⟩, hk⟩
    wtm_at "s"
    exact q _ (tt_iff ⟨by omega, by omega, fun k h => hk k (by omega)⟩)
abbrev sp_is_tree (K : PySem.W.Frag) : Sp := fun vs H Q E => ∃ v0, vs = [v0] ∧ pr_is_tree K v0 H Q E
theorem ok_is_tree (T : Txt K mg A) : FnOk P w K mg base CX0 1 A.a_is_tree A.d_is_tree ["parents"] (sp_is_tree K) := by
  refine T.F_is_tree.ok sc_is_tree (fun vs H Q E h => by obtain ⟨v0, rfl, _⟩ := h; rfl) (fun cdv A0 outer s H vs Q E hr h => ?_)
  obtain ⟨v0, rfl, h⟩ := h
  exact ⟨t_is_tree K, (pss_cons (ps_if (PW.pt (pw_or (pt_cmpR op_lt (pe_callB q_len (by rfl) T.z_len (by decide +kernel) (pa_cons (pv 0) pa_nil)) pe_int (nomark _)) (pw_or1 (pt_cmpR op_ge (pe_callB q_len (by rfl) T.z_len (by decide +kernel) (pa_cons (pv 0) pa_nil)) (pe_glob (v := .int 60) (by rfl) T.c_MOST_PLACES ⟨_, rfl⟩) (nomark _))))) (pss_one (ps_ret pe_bl)) pss_nil)
      (pss_cons (ps_for PassesOwn.never rfl (pi_range1 (by rfl) T.z_range (pa_cons (pe_callB q_len (by rfl) T.z_len (by decide +kernel) (pa_cons (pv 0) pa_nil)) pa_nil)) (pg_name (i := 1) sc_is_tree.nd rfl (Or.inl rfl))
      (pss_one (ps_if (PW.pt (pw_or (pt_cmpR op_lt (pe_ix ix_list (pv 0) (pv 1) (fun _ _ => rfl)) pe_int (nomark _)) (pw_or1 (pt_cmpR op_gt (pe_ix ix_list (pv 0) (pv 1) (fun _ _ => rfl)) (pv 1) (nomark _))))) (pss_one (ps_ret pe_bl)) pss_nil)))
      (pss_one (ps_ret pe_bl)))), pure_is_tree h⟩
def pr_look_net (K : PySem.W.Frag) (v0 : V) (H : Hp) (Q : VK) (_ : XK) : Prop := ∃ N : Net, Dp K H v0 N.d ∧ N.ok ∧ Q .non H
def t_look_net (K : PySem.W.Frag) : TS :=
  (tSeq (tAsg (tVar 0) (gTup K 2 (gCons (gName 1) (gCons (gName 2) gNil))))
    (tSeq (tIfS (tTest (tOp rEq (tVar 1) (tC (.str (Str.ofString "tree"))))) (tAsg (tAndV (tCB (rIsi K) (tCons (tVar 2) (tCons (tC (.ty "list")) tNil))) (tCall (sp_is_tree K) [] E0 (tCons (tVar 2) tNil))) (gName 3)) (tIfS (tOr (tTest (tOp rEq (tVar 1) (tC (.str (Str.ofString "line"))))) (tTest (tOp rEq (tVar 1) (tC (.str (Str.ofString "ring")))))) (tAsg (tAndV (tNotV (tCB (rIsi K) (tCons (tVar 2) (tCons (tC (.ty "list")) tNil)))) (tAndV (tOp xGe (tVar 2) (tOp xAdd (tC (.int 2)) (tCB rIntOf (tCons (tOp rEq (tVar 1) (tC (.str (Str.ofString "ring")))) tNil)))) (tOp xLe (tVar 2) (tC (.int 60))))) (gName 3)) (tAsg (tC (.bl false)) (gName 3))))
    (tIfS (tNot (tB (tVar 3))) tNever tNext)))
theorem pure_look_net {v0 : V} {H : Hp} {Q : VK} {E : XK} (h : pr_look_net K v0 H Q E) : t_look_net K ⟨fun _ H' => Q .non H', Q, fun _ _ => False, fun _ _ => False⟩ [some v0, none, none, none] H := by
  obtain ⟨N, hd, ok, q⟩ := h
  obtain ⟨a, y, rfl, hs, hy⟩ := dp_net hd
  unfold t_look_net
  cases N with
  | line n =>
    obtain rfl := dp_int hy
    obtain ⟨o1, o2⟩ := ok
    wtm_at "s"
    refine k_eqS ?_
    rw [show Net.kind (.line n) = Str.ofString "line" from rfl, s_lt]
    wtm_at "s"
    refine k_eqS ?_
    rw [s_same]
    wtm_at "s"
    refine k_eqS ?_
    rw [s_lr]
    wtm_at "s"
    have e1 : decide (2 + (if false = true then 1 else 0) ≤ n) = true := by simp; omega
    rw [e1]
    wtm_at "s"
    exact q
  | ring n =>
    obtain rfl := dp_int hy
    obtain ⟨o1, o2⟩ := ok
    wtm_at "s"
    refine k_eqS ?_
    rw [show Net.kind (.ring n) = Str.ofString "ring" from rfl, s_rt]
    wtm_at "s"
    refine k_eqS ?_
    rw [s_rl]
    wtm_at "s"
    refine k_eqS ?_
    rw [s_same]
    wtm_at "s"
    refine k_eqS ?_
    rw [s_same]
    wtm_at "s"
    exact q
  | tree ps =>
    obtain ⟨b, rfl, hb⟩ := dp_ints hy
    wtm_at "s"
    refine k_eqS ?_
    rw [show Net.kind (.tree ps) = Str.ofString "tree" from rfl, s_same]
    wtm_at "s"
    refine ⟨_, rfl, ps, hy, by have := ok.2.1; omega, fun r hr => ?_⟩
    obtain rfl := hr.mpr ok
    wtm_at "s"
    exact q
abbrev sp_look_net (K : PySem.W.Frag) : Sp := fun vs H Q E => ∃ v0, vs = [v0] ∧ pr_look_net K v0 H Q E
theorem ok_look_net (T : Txt K mg A) : FnOk P w K mg base CX0 2 A.a_look_net A.d_look_net ["net"] (sp_look_net K) := by
  refine T.F_look_net.ok sc_look_net (fun vs H Q E h => by obtain ⟨v0, rfl, _⟩ := h; rfl) (fun cdv A0 outer s H vs Q E hr h => ?_)
  obtain ⟨v0, rfl, h⟩ := h
  exact ⟨t_look_net K, (pss_cons (ps_asg (pv 0) (pg_tup (by rfl) (pgs_cons (pg_name (i := 1) sc_look_net.nd rfl (Or.inl rfl)) (pgs_cons (pg_name (i := 2) sc_look_net.nd rfl (Or.inl rfl)) pgs_nil))))
      (pss_cons (ps_if (pt_cmpR op_eq (pv 1) pe_str (nomark _)) (pss_one (ps_set (i := 3) sc_look_net.nd rfl (Or.inl rfl) (pe_and (pe_callB q_isi (by rfl) T.z_isinstance (by decide +kernel) (pa_cons (pv 2) (pa_cons (pe_bltn (v := .ty "list") (by rfl) T.z_list (by decide +kernel) rfl) pa_nil))) (pe_one (pe_call (ok_is_tree (mg := mg) (base := base) T) (hr.mono (by decide)) (by rfl) T.g_is_tree T.F_is_tree.kp T.b_is_tree .nil pass0 (pa_cons (pv 2) pa_nil)))))) (pss_one (ps_if (PW.pt (pw_or (pt_cmpR op_eq (pv 1) pe_str (nomark _)) (pw_or1 (pt_cmpR op_eq (pv 1) pe_str (nomark _))))) (pss_one (ps_set (i := 3) sc_look_net.nd rfl (Or.inl rfl) (pe_and (pe_not (pe_callB q_isi (by rfl) T.z_isinstance (by decide +kernel) (pa_cons (pv 2) (pa_cons (pe_bltn (v := .ty "list") (by rfl) T.z_list (by decide +kernel) rfl) pa_nil)))) (pe_and (pe_cmpR op_ge (pv 2) (pe_op op_add pe_int (pe_callTy q_intB (by rfl) T.z_int (by decide +kernel) (pa_cons (pe_cmpR op_eq (pv 1) pe_str (nomark _)) pa_nil))) (nomark _)) (pe_one (pe_cmpR op_le (pv 2) (pe_glob (v := .int 60) (by rfl) T.c_MOST_PLACES ⟨_, rfl⟩) (nomark _))))))) (pss_one (ps_set (i := 3) sc_look_net.nd rfl (Or.inl rfl) pe_bl)))))
      (pss_one (ps_if (pt_not (pt_val (pv 3))) (pss_one ps_never) pss_nil)))), pure_look_net h⟩
def pr_must_be_kind (K : PySem.W.Frag) (v0 v1 : V) (H : Hp) (Q : VK) (_ : XK) : Prop := ∃ N : Net, Dp K H v0 N.d ∧ N.ok ∧ v1 = .str N.kind ∧ Q .non H
def t_must_be_kind (K : PySem.W.Frag) : TS :=
  (tSeq (tDrop (tCall (sp_look_net K) [] E0 (tCons (tVar 0) tNil)))
    (tIfS (tTest (tOp rNe (tOp (rIxT K) (tVar 0) (tC (.int 0))) (tVar 1))) tNever tNext))
theorem pure_must_be_kind {v0 v1 : V} {H : Hp} {Q : VK} {E : XK} (h : pr_must_be_kind K v0 v1 H Q E) : t_must_be_kind K ⟨fun _ H' => Q .non H', Q, fun _ _ => False, fun _ _ => False⟩ [some v0, some v1] H := by
  obtain ⟨N, hd, ok, rfl, q⟩ := h
  obtain ⟨a, y, rfl, hs, hy⟩ := dp_net hd
  unfold t_must_be_kind
  wtm_at "s"
  refine ⟨_, rfl, N, hd, ok, ?_⟩
  wtm_at "s"
  refine k_neS ?_
  rw [s_same]
  wtm_at "s"
  exact q
abbrev sp_must_be_kind (K : PySem.W.Frag) : Sp := fun vs H Q E => ∃ v0 v1, vs = [v0, v1] ∧ pr_must_be_kind K v0 v1 H Q E
theorem ok_must_be_kind (T : Txt K mg A) : FnOk P w K mg base CX0 3 A.a_must_be_kind A.d_must_be_kind ["net", "kind"] (sp_must_be_kind K) := by
  refine T.F_must_be_kind.ok sc_must_be_kind (fun vs H Q E h => by obtain ⟨v0, v1, rfl, _⟩ := h; rfl) (fun cdv A0 outer s H vs Q E hr h => ?_)
  obtain ⟨v0, v1, rfl, h⟩ := h
  exact ⟨t_must_be_kind K, (pss_cons (ps_expr (pe_call (ok_look_net (mg := mg) (base := base) T) (hr.mono (by decide)) (by rfl) T.g_look_net T.F_look_net.kp T.b_look_net .nil pass0 (pa_cons (pv 0) pa_nil)))
      (pss_one (ps_if (pt_cmpR op_ne (pe_ix ix_tup (pv 0) pe_int (fun _ _ => rfl)) (pv 1) (nomark _)) (pss_one ps_never) pss_nil))), pure_must_be_kind h⟩


def pr_places_of (K : PySem.W.Frag) (v0 : V) (H : Hp) (Q : VK) (_ : XK) : Prop := ∃ N : Net, Dp K H v0 N.d ∧ Q (.int N.places) H
def t_places_of (K : PySem.W.Frag) : TS :=
  (tSeq (tIfS (tTest (tOp rEq (tOp (rIxT K) (tVar 0) (tC (.int 0))) (tC (.str (Str.ofString "tree"))))) (tRet (tOp xAdd (tCB (rLenX K) (tCons (tOp (rIxT K) (tVar 0) (tC (.int 1))) tNil)) (tC (.int 1)))) tNext)
    (tRet (tOp (rIxT K) (tVar 0) (tC (.int 1)))))
theorem pure_places_of {v0 : V} {H : Hp} {Q : VK} {E : XK} (h : pr_places_of K v0 H Q E) : t_places_of K ⟨fun _ H' => Q .non H', Q, fun _ _ => False, fun _ _ => False⟩ [some v0] H := by
  obtain ⟨N, hd, q⟩ := h
  obtain ⟨a, y, rfl, hs, hy⟩ := dp_net hd
  unfold t_places_of
  wtm_at "s"
  refine k_eqS ?_
  cases N with
  | line n =>
    obtain rfl := dp_int hy
    rw [show Net.kind (.line n) = Str.ofString "line" from rfl, s_lt]
    wtm_at "s"
    exact q
  | ring n =>
    obtain rfl := dp_int hy
    rw [show Net.kind (.ring n) = Str.ofString "ring" from rfl, s_rt]
    wtm_at "s"
    exact q
  | tree ps =>
    obtain ⟨b, rfl, hb⟩ := dp_ints hy
    rw [show Net.kind (.tree ps) = Str.ofString "tree" from rfl, s_same]
    wtm_at "s"
    exact q
abbrev sp_places_of (K : PySem.W.Frag) : Sp := fun vs H Q E => ∃ v0, vs = [v0] ∧ pr_places_of K v0 H Q E
theorem ok_places_of (T : Txt K mg A) : FnOk P w K mg base CX0 1 A.a_places_of A.d_places_of ["net"] (sp_places_of K) := by
  refine T.F_places_of.ok sc_places_of (fun vs H Q E h => by obtain ⟨v0, rfl, _⟩ := h; rfl) (fun cdv A0 outer s H vs Q E hr h => ?_)
  obtain ⟨v0, rfl, h⟩ := h
  exact ⟨t_places_of K, (pss_cons (ps_if (pt_cmpR op_eq (pe_ix ix_tup (pv 0) pe_int (fun _ _ => rfl)) pe_str (nomark _)) (pss_one (ps_ret (pe_op op_add (pe_callB q_len (by rfl) T.z_len (by decide +kernel) (pa_cons (pe_ix ix_tup (pv 0) pe_int (fun _ _ => rfl)) pa_nil)) pe_int))) pss_nil)
      (pss_one (ps_ret (pe_ix ix_tup (pv 0) pe_int (fun _ _ => rfl))))), pure_places_of h⟩
def pr_ties_many (K : PySem.W.Frag) (v0 : V) (H : Hp) (Q : VK) (_ : XK) : Prop := ∃ N : Net, Dp K H v0 N.d ∧ N.ok ∧ Q (.int N.ties) H
def t_ties_many (K : PySem.W.Frag) : TS :=
  (tRet (tOp xSub (tCall (sp_places_of K) [] E0 (tCons (tVar 0) tNil)) (tCB rIntOf (tCons (tOp rNe (tOp (rIxT K) (tVar 0) (tC (.int 0))) (tC (.str (Str.ofString "ring")))) tNil))))
theorem pure_ties_many {v0 : V} {H : Hp} {Q : VK} {E : XK} (h : pr_ties_many K v0 H Q E) : t_ties_many K ⟨fun _ H' => Q .non H', Q, fun _ _ => False, fun _ _ => False⟩ [some v0] H := by
  obtain ⟨N, hd, ok, q⟩ := h
  obtain ⟨a, y, rfl, hs, hy⟩ := dp_net hd
  unfold t_ties_many
  wtm_at "s"
  refine ⟨_, rfl, N, hd, ?_⟩
  wtm_at "s"
  refine k_neS ?_
  cases N with
  | line n =>
    rw [show Net.kind (.line n) = Str.ofString "line" from rfl, s_lr]
    wtm_at "s"
    have : ((Net.line n).ties : Int) = n - 1 := by have := ok.1; show ((n - 1).toNat : Int) = _; omega
    rw [this] at q
    exact q
  | ring n =>
    rw [show Net.kind (.ring n) = Str.ofString "ring" from rfl, s_same]
    wtm_at "s"
    have : ((Net.ring n).ties : Int) = n - 0 := by have := ok.1; show ((n).toNat : Int) = _; omega
    rw [this] at q
    exact q
  | tree ps =>
    rw [show Net.kind (.tree ps) = Str.ofString "tree" from rfl, s_tr]
    wtm_at "s"
    have : ((Net.tree ps).ties : Int) = (ps.length + 1 : Int) - 1 := by show (ps.length : Int) = _; omega
    rw [this] at q
    exact q
abbrev sp_ties_many (K : PySem.W.Frag) : Sp := fun vs H Q E => ∃ v0, vs = [v0] ∧ pr_ties_many K v0 H Q E
theorem ok_ties_many (T : Txt K mg A) : FnOk P w K mg base CX0 2 A.a_ties_many A.d_ties_many ["net"] (sp_ties_many K) := by
  refine T.F_ties_many.ok sc_ties_many (fun vs H Q E h => by obtain ⟨v0, rfl, _⟩ := h; rfl) (fun cdv A0 outer s H vs Q E hr h => ?_)
  obtain ⟨v0, rfl, h⟩ := h
  exact ⟨t_ties_many K, (pss_one (ps_ret (pe_op op_sub (pe_call (ok_places_of (mg := mg) (base := base) T) (hr.mono (by decide)) (by rfl) T.g_places_of T.F_places_of.kp T.b_places_of .nil pass0 (pa_cons (pv 0) pa_nil)) (pe_callTy q_intB (by rfl) T.z_int (by decide +kernel) (pa_cons (pe_cmpR op_ne (pe_ix ix_tup (pv 0) pe_int (fun _ _ => rfl)) pe_str (nomark _)) pa_nil))))), pure_ties_many h⟩
def pr_is_way (K : PySem.W.Frag) (v0 v1 : V) (H : Hp) (Q : VK) (_ : XK) : Prop := ∃ (N : Net) (a b : Int), Dp K H v0 N.d ∧ Dp K H v1 (dPair (a, b)) ∧ Q (.bl (decide (isWay N a b))) H
def t_is_way (K : PySem.W.Frag) : TS :=
  (tSeq (tAsg (tVar 1) (gTup K 2 (gCons (gName 2) (gCons (gName 3) gNil))))
    (tRet (tAndV (tOp rNe (tVar 2) (tVar 3)) (tAndV (tOp xGe (tCB rMin2 (tCons (tVar 2) (tCons (tVar 3) tNil))) (tC (.int 0))) (tOp xLt (tCB rMax2 (tCons (tVar 2) (tCons (tVar 3) tNil))) (tCall (sp_places_of K) [] E0 (tCons (tVar 0) tNil)))))))
theorem pure_is_way {v0 v1 : V} {H : Hp} {Q : VK} {E : XK} (h : pr_is_way K v0 v1 H Q E) : t_is_way K ⟨fun _ H' => Q .non H', Q, fun _ _ => False, fun _ _ => False⟩ [some v0, some v1, none, none] H := by
  obtain ⟨N, a, b, hd, hw, q⟩ := h
  obtain ⟨p, rfl, hp⟩ := dp_pair hw
  have kk : ∀ r : Bool, (r = true ↔ isWay N a b) → Q (.bl r) H := fun r hr => by
    have : r = decide (isWay N a b) := by
      by_cases c : isWay N a b
      · rw [decide_eq_true c]; exact hr.mpr c
      · rw [decide_eq_false c]
        cases r with
        | false => rfl
        | true => exact absurd (hr.mp rfl) c
    rw [this]; exact q
  unfold t_is_way
  wtm_at "s"
  refine k_itn (fun c1 => ?_) (fun c1 => ?_)
  · wtm_at "s"
    refine k_it (fun c2 => ?_) (fun c2 => ?_)
    · wtm_at "s"
      refine ⟨_, rfl, N, hd, ?_⟩
      wtm_at "s"
      refine kk _ ?_
      simp only [decide_eq_true_eq, isWay]
      constructor
      · intro z
        split at z <;> split at c2 <;> omega
      · intro z
        split <;> omega
    · wtm_at "s"
      refine kk _ (ff_iff fun z => c2 ?_)
      obtain ⟨z1, z2, z3, z4, z5⟩ := z
      split <;> omega
  · wtm_at "s"
    exact kk _ (ff_iff fun z => z.1 c1)
abbrev sp_is_way (K : PySem.W.Frag) : Sp := fun vs H Q E => ∃ v0 v1, vs = [v0, v1] ∧ pr_is_way K v0 v1 H Q E
theorem ok_is_way (T : Txt K mg A) : FnOk P w K mg base CX0 2 A.a_is_way A.d_is_way ["net", "way"] (sp_is_way K) := by
  refine T.F_is_way.ok sc_is_way (fun vs H Q E h => by obtain ⟨v0, v1, rfl, _⟩ := h; rfl) (fun cdv A0 outer s H vs Q E hr h => ?_)
  obtain ⟨v0, v1, rfl, h⟩ := h
  exact ⟨t_is_way K, (pss_cons (ps_asg (pv 1) (pg_tup (by rfl) (pgs_cons (pg_name (i := 2) sc_is_way.nd rfl (Or.inl rfl)) (pgs_cons (pg_name (i := 3) sc_is_way.nd rfl (Or.inl rfl)) pgs_nil))))
      (pss_one (ps_ret (pe_and (pe_cmpR op_ne (pv 2) (pv 3) (nomark _)) (pe_and (pe_cmpR op_ge (pe_callB (q_min2 (by rfl)) (by rfl) T.z_min (by decide +kernel) (pa_cons (pv 2) (pa_cons (pv 3) pa_nil))) pe_int (nomark _)) (pe_one (pe_cmpR op_lt (pe_callB (q_max2 (by rfl)) (by rfl) T.z_max (by decide +kernel) (pa_cons (pv 2) (pa_cons (pv 3) pa_nil))) (pe_call (ok_places_of (mg := mg) (base := base) T) (hr.mono (by decide)) (by rfl) T.g_places_of T.F_places_of.kp T.b_places_of .nil pass0 (pa_cons (pv 0) pa_nil)) (nomark _)))))))), pure_is_way h⟩
def pr_look_ring (K : PySem.W.Frag) (v0 : V) (H : Hp) (Q : VK) (_ : XK) : Prop := ∃ n, Dp K H v0 (Net.ring n).d ∧ (Net.ring n).ok ∧ Q .non H
def t_look_ring (K : PySem.W.Frag) : TS :=
  (tDrop (tCall (sp_must_be_kind K) [] E0 (tCons (tVar 0) (tCons (tC (.str (Str.ofString "ring"))) tNil))))
theorem pure_look_ring {v0 : V} {H : Hp} {Q : VK} {E : XK} (h : pr_look_ring K v0 H Q E) : t_look_ring K ⟨fun _ H' => Q .non H', Q, fun _ _ => False, fun _ _ => False⟩ [some v0] H := by
  obtain ⟨n, hd, ok, q⟩ := h
  unfold t_look_ring
  wtm_at "s"
  exact ⟨_, _, rfl, .ring n, hd, ok, rfl, q⟩
abbrev sp_look_ring (K : PySem.W.Frag) : Sp := fun vs H Q E => ∃ v0, vs = [v0] ∧ pr_look_ring K v0 H Q E
theorem ok_look_ring (T : Txt K mg A) : FnOk P w K mg base CX0 4 A.a_look_ring A.d_look_ring ["net"] (sp_look_ring K) := by
  refine T.F_look_ring.ok sc_look_ring (fun vs H Q E h => by obtain ⟨v0, rfl, _⟩ := h; rfl) (fun cdv A0 outer s H vs Q E hr h => ?_)
  obtain ⟨v0, rfl, h⟩ := h
  exact ⟨t_look_ring K, (pss_one (ps_expr (pe_call (ok_must_be_kind (mg := mg) (base := base) T) (hr.mono (by decide)) (by rfl) T.g_must_be_kind T.F_must_be_kind.kp T.b_must_be_kind .nil pass0 (pa_cons (pv 0) (pa_cons pe_str pa_nil))))), pure_look_ring h⟩


theorem below_lt {ps : List Int} {k : Nat} : ∀ x, x < k → below ps k x = false
  | 0, h => by unfold below; exact decide_eq_false (by omega)
  | x + 1, h => by
    unfold below
    rw [decide_eq_false (show ¬ k = x + 1 by omega), decide_eq_false (show ¬ k < x + 1 by omega)]; rfl
theorem below_self {ps : List Int} (k : Nat) : below ps k k = true := by
  cases k with
  | zero => unfold below; rfl
  | succ x => unfold below; rw [decide_eq_true rfl]; rfl
theorem below_step {ps : List Int} (h : TreeOk ps) {k x : Nat} (hx : x < ps.length) (hk : k ≠ x + 1) : below ps k (x + 1) = below ps k (ps.getD x 0).toNat := by
  have hp := h.2.2 x hx
  have hlt : (ps.getD x 0).toNat < x + 1 := by omega
  rw [below, decide_eq_false hk, Bool.false_or, dif_pos hlt]
  by_cases c : k < x + 1
  · rw [decide_eq_true c, Bool.true_and]
  · rw [decide_eq_false c, Bool.false_and, below_lt _ (by omega)]
theorem ring_step {n a b t : Int} (a0 : 0 ≤ a) (a1 : a < n) (b0 : 0 ≤ b) (b1 : b < n) (ne : a ≠ b) (t0 : 0 ≤ t) (t1 : t < n) :
    (up n a t < up n a b ↔ t = a ∨ up n ((a + 1) % n) t < up n ((a + 1) % n) b) ∧ (t = a → ¬ up n ((a + 1) % n) t < up n ((a + 1) % n) b) := by
  have e : (a + 1) % n = if a + 1 = n then 0 else a + 1 := by
    split
    · rename_i h; rw [h]; exact Int.emod_self
    · exact Int.emod_eq_of_lt (by omega) (by omega)
  rw [e]
  unfold up
  constructor
  · constructor
    · intro h; repeat' split at h
      all_goals repeat' split
      all_goals omega
    · intro h; repeat' split at h
      all_goals repeat' split
      all_goals omega
  · intro h; subst h
    repeat' split
    all_goals omega
theorem ring_far {n a b : Int} (a0 : 0 ≤ a) (a1 : a < n) (b0 : 0 ≤ b) (b1 : b < n) (ne : a ≠ b) : up n ((a + 1) % n) b = up n a b - 1 ∧ 0 ≤ (a + 1) % n ∧ (a + 1) % n < n ∧ 0 < up n a b ∧ up n a b < n := by
  have e : (a + 1) % n = if a + 1 = n then 0 else a + 1 := by
    split
    · rename_i h; rw [h]; exact Int.emod_self
    · exact Int.emod_eq_of_lt (by omega) (by omega)
  rw [e]
  unfold up
  refine ⟨?_, ?_, ?_, ?_, ?_⟩ <;> repeat' split
  all_goals omega
theorem up_self (n a : Int) : up n a a = 0 := by unfold up; split <;> omega
theorem up_nonneg {n a b : Int} (a0 : 0 ≤ a) (a1 : a < n) (b0 : 0 ≤ b) (b1 : b < n) : 0 ≤ up n a b := by unfold up; split <;> omega
/-- the greater end climbs -/
theorem tree_step {ps : List Int} (h : TreeOk ps) {x y t : Int} (x0 : 0 ≤ x) (x1 : x < ps.length + 1) (y0 : 0 ≤ y) (yx : y < x) (t0 : 0 ≤ t) :
    (below ps (t.toNat + 1) x.toNat ≠ below ps (t.toNat + 1) y.toNat ↔ t = x - 1 ∨ below ps (t.toNat + 1) (ps.getD (x - 1).toNat 0).toNat ≠ below ps (t.toNat + 1) y.toNat) ∧
    (t = x - 1 → ¬ below ps (t.toNat + 1) (ps.getD (x - 1).toNat 0).toNat ≠ below ps (t.toNat + 1) y.toNat) := by
  have hp := h.2.2 (x - 1).toNat (by omega)
  by_cases c : t = x - 1
  · subst c
    have e1 : (x - 1).toNat + 1 = x.toNat := by omega
    rw [e1, below_self, below_lt y.toNat (by omega), below_lt (ps.getD (x - 1).toNat 0).toNat (by omega)]
    simp
  · have e1 : x.toNat = (x - 1).toNat + 1 := by omega
    have := below_step h (k := t.toNat + 1) (x := (x - 1).toNat) (by omega) (by omega)
    rw [e1, this]
    simp [c]
theorem srt_of {fs ns : List Int} (nd : fs.Nodup) (pm : ns.Perm fs) (srt : ns.Pairwise (· ≤ ·)) : ns.Pairwise (· < ·) := by
  have := srt.and (pm.nodup_iff.mpr nd)
  exact this.imp fun ⟨a, b⟩ => by omega
def pr_ties_on (K : PySem.W.Frag) (v0 v1 : V) (H : Hp) (Q : VK) (_ : XK) : Prop := ∃ (N : Net) (a b : Int), Dp K H v0 N.d ∧ Dp K H v1 (dPair (a, b)) ∧ N.ok ∧ isWay N a b ∧ ∀ p ns H', H p = none → Same H H' → H' p = some (.lst (List.map V.int ns)) → TiesOf N a b ns → Q (.ref p) H'
def t_ties_on (K : PySem.W.Frag) : TS :=
  (tSeq (tAsg (tVar 1) (gTup K 2 (gCons (gName 2) (gCons (gName 3) gNil))))
    (tSeq (tAsg (tLst tNil) (gName 4))
    (tSeq (tIfS (tTest (tOp rEq (tOp (rIxT K) (tVar 0) (tC (.int 0))) (tC (.str (Str.ofString "line"))))) (tRet (tLstRg (tRg2 (tCB rMin2 (tCons (tVar 2) (tCons (tVar 3) tNil))) (tCB rMax2 (tCons (tVar 2) (tCons (tVar 3) tNil)))))) tNext)
    (tSeq (tWhile (tTest (tOp rNe (tVar 2) (tVar 3)))
      (tIfS (tTest (tOp rEq (tOp (rIxT K) (tVar 0) (tC (.int 0))) (tC (.str (Str.ofString "ring"))))) (tSeq (tDrop (tBM K "list" rAppend (tVar 4) (tCons (tVar 2) tNil)))
    (tAsg (tOp xMod (tOp xAdd (tVar 2) (tC (.int 1))) (tOp (rIxT K) (tVar 0) (tC (.int 1)))) (gName 2))) (tIfS (tTest (tOp xGt (tVar 2) (tVar 3))) (tSeq (tDrop (tBM K "list" rAppend (tVar 4) (tCons (tOp xSub (tVar 2) (tC (.int 1))) tNil)))
    (tAsg (tOp (rIxL K) (tOp (rIxT K) (tVar 0) (tC (.int 1))) (tOp xSub (tVar 2) (tC (.int 1)))) (gName 2))) (tSeq (tDrop (tBM K "list" rAppend (tVar 4) (tCons (tOp xSub (tVar 3) (tC (.int 1))) tNil)))
    (tAsg (tOp (rIxL K) (tOp (rIxT K) (tVar 0) (tC (.int 1))) (tOp xSub (tVar 3) (tC (.int 1)))) (gName 3))))))
    (tRet (tCB (rSortedI K) (tCons (tVar 4) tNil)))))))
def Net.far2 (N : Net) (a b a' b' : Int) (fs : List Int) (m : Nat) : Prop := match N with
  | .line _ => True
  | .ring n => (m : Int) = up n a' b' ∧ (fs.length : Int) + m = up n a b
  | .tree _ => (m : Int) = a' + b' ∧ (fs.length : Int) + m ≤ a + b
theorem pure_ties_on {v0 v1 : V} {H : Hp} {Q : VK} {E : XK} (h : pr_ties_on K v0 v1 H Q E) : t_ties_on K ⟨fun _ H' => Q .non H', Q, fun _ _ => False, fun _ _ => False⟩ [some v0, some v1, none, none, none] H := by
  obtain ⟨N, a, b, hd, hw, ok, ⟨w1, w2, w3, w4, w5⟩, q⟩ := h
  obtain ⟨c, y, rfl, hs, hy⟩ := dp_net hd
  obtain ⟨p, rfl, hp⟩ := dp_pair hw
  unfold t_ties_on
  wtm_at "s"
  refine ⟨sz (by simp), fun fo nfo => ?_⟩
  have s1 := same_new (o := .lst []) nfo
  have e1 : upd H fo (.lst []) fo = some (.lst (List.map V.int [])) := upd_same
  generalize upd H fo (.lst []) = H1 at s1 e1 ⊢
  wtm_at "s"
  refine k_eqS ?_
  have loop : ∀ (nx : L2.St → Hp → Prop) (bk ct : L2.St → Hp → Prop), (match N with | .line _ => False | _ => True) → ∀ (W : Nat → L2.St → Hp → Prop), True := fun _ _ _ _ _ => trivial
  cases N with
  | line n =>
    obtain rfl := dp_int hy
    rw [show Net.kind (.line n) = Str.ofString "line" from rfl, s_same]
    obtain ⟨o1, o2⟩ := ok
    have w4' : a < n := w4
    have w5' : b < n := w5
    wtm_at "s"
    have hmn : (if b < a then b else a) = min a b := by split <;> omega
    have hmx : (if b > a then b else a) = max a b := by split <;> omega
    rw [hmn, hmx]
    refine ⟨.of_le (by omega) (by omega) (by omega) (by omega), fun l nl => ?_⟩
    refine q l ((List.range (max a b - min a b).toNat).map fun i => min a b + (i : Nat)) _ (s1.free nl) (s1.trans (same_new nl)) (by rw [upd_same, rg_ints]) ⟨?_, fun t => ?_, ?_⟩
    · exact List.pairwise_map.mpr (List.pairwise_lt_range.imp fun h => by omega)
    · show _ ↔ min a b ≤ t ∧ t < max a b
      rw [List.mem_map]
      constructor
      · rintro ⟨i, hi, rfl⟩
        have := List.mem_range.mp hi
        omega
      · intro h
        exact ⟨(t - min a b).toNat, List.mem_range.mpr (by omega), by omega⟩
    · show ((List.map _ _).length : Int) = max a b - min a b
      rw [List.length_map, List.length_range]
      omega
  | ring n =>
    obtain rfl := dp_int hy
    rw [show Net.kind (.ring n) = Str.ofString "ring" from rfl] at hs ⊢
    rw [s_rl]
    obtain ⟨o1, o2⟩ := ok
    have w4' : a < n := w4
    have w5' : b < n := w5
    have u0 := up_nonneg w2 w4' w3 w5'
    wtm_at "s"
    refine ⟨fun m σ' H' => ∃ a' fs, σ' = [some (.ref c), some (.ref p), some (.int a'), some (.int b), some (.ref fo)] ∧ Same H H' ∧ H' fo = some (.lst (List.map V.int fs)) ∧ 0 ≤ a' ∧ a' < n ∧ fs.Nodup ∧ (m : Int) = up n a' b ∧ (fs.length : Int) + m = up n a b ∧
      (∀ t, OnTie (.ring n) a b t ↔ t ∈ fs ∨ OnTie (.ring n) a' b t) ∧ (∀ t, t ∈ fs → ¬ OnTie (.ring n) a' b t),
      ⟨(up n a b).toNat, a, [], rfl, s1, e1, w2, w4', List.nodup_nil, by omega, by simp; omega, fun t => by simp, fun t z => by cases z⟩, ?_⟩
    rintro m σ' H' ⟨a', fs, rfl, sm, hf, a0, a1, nd, hm, hfl, ht, hn⟩
    wtm_at "s"
    refine k_itn (fun c1 => ?_) (fun c1 => ?_)
    · obtain ⟨f1, f2, f3, f4, f5⟩ := ring_far a0 a1 w3 w5' c1
      have uab : up n a b < n := by unfold up; split <;> omega
      refine ⟨fun σ' H' => ∃ fs', σ' = [some (.ref c), some (.ref p), some (.int ((a' + 1) % n)), some (.int b), some (.ref fo)] ∧ Same H H' ∧ H' fo = some (.lst (List.map V.int fs')) ∧ fs'.Nodup ∧ (fs'.length : Int) + (m - 1 : Nat) = up n a b ∧
        (∀ t, OnTie (.ring n) a b t ↔ t ∈ fs' ∨ OnTie (.ring n) ((a' + 1) % n) b t) ∧ (∀ t, t ∈ fs' → ¬ OnTie (.ring n) ((a' + 1) % n) b t), fun σ' H' ⟨fs', e, g1, g2, g3, g4, g5, g6⟩ => ⟨m - 1, by omega, _, fs', e, g1, g2, f2, f3, g3, by omega, g4, g5, g6⟩, ?_⟩
      have hs' : SqT K H' c [.str (Str.ofString "ring"), .int n] := same_seqT sm hs
      wtm_at "s"
      refine k_eqS ?_
      rw [s_same]
      wtm_at "s"
      refine k_tyL (sl hf) ?_
      wtm_at "s"
      refine k_append hf (by rw [List.length_map]; omega) ?_
      have hs2 : SqT K (upd H' fo (.lst (List.map V.int fs ++ [.int a']))) c [.str (Str.ofString "ring"), .int n] := same_seqT (same_mut sm nfo) hs
      wtm_at "s"
      refine ⟨fs ++ [a'], rfl, same_mut sm nfo, by rw [upd_same, List.map_append]; rfl, ?_, ?_, fun t => ?_, fun t z => ?_⟩
      · refine List.nodup_append.mpr ⟨nd, by simp, fun x hx y hy e => ?_⟩
        have : y = a' := by simpa using hy
        subst this; subst e
        exact hn x hx ⟨a0, a1, by rw [up_self]; exact f4⟩
      · rw [List.length_append]; show ((fs.length + 1 : Nat) : Int) + _ = _; omega
      · rw [ht t, List.mem_append]
        show t ∈ fs ∨ (0 ≤ t ∧ t < n ∧ up n a' t < up n a' b) ↔ (t ∈ fs ∨ t ∈ [a']) ∨ (0 ≤ t ∧ t < n ∧ _)
        by_cases r : 0 ≤ t ∧ t < n
        · have st := (ring_step a0 a1 w3 w5' c1 r.1 r.2).1
          simp only [r.1, r.2, true_and, List.mem_singleton, st, or_assoc]
        · have : t ≠ a' := fun e => r (by omega)
          constructor
          · rintro (h | h)
            · exact .inl (.inl h)
            · exact absurd ⟨h.1, h.2.1⟩ r
          · rintro ((h | h) | h)
            · exact .inl h
            · exact absurd (by simpa using h) this
            · exact absurd ⟨h.1, h.2.1⟩ r
      · rcases List.mem_append.mp z with z | z
        · intro o
          obtain ⟨o1, o2, o3⟩ := o
          exact hn t z ⟨o1, o2, (ring_step a0 a1 w3 w5' c1 o1 o2).1.mpr (.inr o3)⟩
        · have e : t = a' := by simpa using z
          intro o
          obtain ⟨o1, o2, o3⟩ := o
          exact (ring_step a0 a1 w3 w5' c1 o1 o2).2 e o3
    · subst c1
      rw [up_self] at hm
      wtm_at "s"
      refine k_sortedI (sl hf) (fun ns l pm srt nl => ?_)
      refine q l ns _ (sm.free nl) (sm.trans (same_new nl)) upd_same ⟨srt_of nd pm srt, fun t => ?_, ?_⟩
      · rw [pm.mem_iff, ht t]
        constructor
        · exact .inl
        · rintro (h | h)
          · exact h
          · obtain ⟨_, _, h⟩ := h
            rw [up_self] at h
            have := up_nonneg a0 a1 (b := t) (by assumption) (by assumption)
            omega
      · show (ns.length : Int) = up n a a'
        rw [pm.length_eq]; omega
  | tree ps =>
    obtain ⟨d, rfl, hdl⟩ := dp_ints hy
    rw [show Net.kind (.tree ps) = Str.ofString "tree" from rfl] at hs ⊢
    rw [s_tl]
    have w4' : a < ps.length + 1 := w4
    have w5' : b < ps.length + 1 := w5
    have l60 := ok.2.1
    wtm_at "s"
    refine ⟨fun m σ' H' => ∃ a' b' fs, σ' = [some (.ref c), some (.ref p), some (.int a'), some (.int b'), some (.ref fo)] ∧ Same H H' ∧ H' fo = some (.lst (List.map V.int fs)) ∧ 0 ≤ a' ∧ a' < ps.length + 1 ∧ 0 ≤ b' ∧ b' < ps.length + 1 ∧ fs.Nodup ∧ (m : Int) = a' + b' ∧ (fs.length : Int) + m ≤ a + b ∧
      (∀ t, OnTie (.tree ps) a b t ↔ t ∈ fs ∨ OnTie (.tree ps) a' b' t) ∧ (∀ t, t ∈ fs → ¬ OnTie (.tree ps) a' b' t),
      ⟨(a + b).toNat, a, b, [], rfl, s1, e1, w2, w4', w3, w5', List.nodup_nil, by omega, by simp; omega, fun t => by simp, fun t z => by cases z⟩, ?_⟩
    rintro m σ' H' ⟨a', b', fs, rfl, sm, hf, a0, a1, b0, b1, nd, hm, hfl, ht, hn⟩
    wtm_at "s"
    refine k_itn (fun c1 => ?_) (fun c1 => ?_)
    · refine ⟨fun σ' H' => ∃ m' a2 b2 fs', m' < m ∧ σ' = [some (.ref c), some (.ref p), some (.int a2), some (.int b2), some (.ref fo)] ∧ Same H H' ∧ H' fo = some (.lst (List.map V.int fs')) ∧ 0 ≤ a2 ∧ a2 < ps.length + 1 ∧ 0 ≤ b2 ∧ b2 < ps.length + 1 ∧ fs'.Nodup ∧ (m' : Int) = a2 + b2 ∧ (fs'.length : Int) + m' ≤ a + b ∧
        (∀ t, OnTie (.tree ps) a b t ↔ t ∈ fs' ∨ OnTie (.tree ps) a2 b2 t) ∧ (∀ t, t ∈ fs' → ¬ OnTie (.tree ps) a2 b2 t), fun σ' H' ⟨m', a2, b2, fs', l, r⟩ => ⟨m', l, a2, b2, fs', r⟩, ?_⟩
      have hs' : SqT K H' c [.str (Str.ofString "tree"), .ref d] := same_seqT sm hs
      wtm_at "s"
      refine k_eqS ?_
      rw [s_tr]
      wtm_at "s"
      refine k_it (fun c2 => ?_) (fun c2 => ?_)
      · have hpa := ok.2.2 (a' - 1).toNat (by omega)
        wtm_at "s"
        refine k_tyL (sl hf) ?_
        wtm_at "s"
        refine k_append hf (by rw [List.length_map]; omega) ?_
        have sm2 : Same H (upd H' fo (.lst (List.map V.int fs ++ [.int (a' - 1)]))) := same_mut sm nfo
        have hs2 : SqT K (upd H' fo (.lst (List.map V.int fs ++ [.int (a' - 1)]))) c [.str (Str.ofString "tree"), .ref d] := same_seqT sm2 hs
        wtm_at "s"
        refine k_ixI (sm2.seq hdl) (by omega) (by omega) ?_
        wtm_at "s"
        refine ⟨(ps.getD (a' - 1).toNat 0 + b').toNat, _, _, fs ++ [a' - 1], by omega, rfl, sm2, by rw [upd_same, List.map_append]; rfl, by omega, by omega, b0, b1, ?_, by omega, ?_, fun t => ?_, fun t z => ?_⟩
        · refine List.nodup_append.mpr ⟨nd, by simp, fun x hx y hy e => ?_⟩
          have : y = a' - 1 := by simpa using hy
          subst this; subst e
          exact hn _ hx ⟨by omega, by omega, (tree_step ok a0 a1 b0 c2 (by omega)).1.mpr (.inl rfl)⟩
        · rw [List.length_append]; show ((fs.length + 1 : Nat) : Int) + _ ≤ _; omega
        · rw [ht t, List.mem_append]
          show t ∈ fs ∨ (0 ≤ t ∧ t < ps.length ∧ _) ↔ (t ∈ fs ∨ t ∈ [a' - 1]) ∨ (0 ≤ t ∧ t < ps.length ∧ _)
          by_cases r : 0 ≤ t ∧ t < ps.length
          · have st := (tree_step ok a0 a1 b0 c2 r.1).1
            simp only [r.1, r.2, true_and, List.mem_singleton, st, or_assoc]
          · have : t ≠ a' - 1 := fun e => r (by omega)
            constructor
            · rintro (h | h)
              · exact .inl (.inl h)
              · exact absurd ⟨h.1, h.2.1⟩ r
            · rintro ((h | h) | h)
              · exact .inl h
              · exact absurd (by simpa using h) this
              · exact absurd ⟨h.1, h.2.1⟩ r
        · rcases List.mem_append.mp z with z | z
          · rintro ⟨o1, o2, o3⟩
            exact hn t z ⟨o1, o2, (tree_step ok a0 a1 b0 c2 o1).1.mpr (.inr o3)⟩
          · have e : t = a' - 1 := by simpa using z
            rintro ⟨o1, o2, o3⟩
            exact (tree_step ok a0 a1 b0 c2 o1).2 e o3
      · have c3 : a' < b' := by omega
        have hpb := ok.2.2 (b' - 1).toNat (by omega)
        have sym : ∀ u v t, OnTie (.tree ps) u v t ↔ OnTie (.tree ps) v u t := fun u v t => by
          show (_ ∧ _ ∧ _ ≠ _) ↔ (_ ∧ _ ∧ _ ≠ _)
          constructor
          · rintro ⟨x1, x2, x3⟩; exact ⟨x1, x2, x3.symm⟩
          · rintro ⟨x1, x2, x3⟩; exact ⟨x1, x2, x3.symm⟩
        wtm_at "s"
        refine k_tyL (sl hf) ?_
        wtm_at "s"
        refine k_append hf (by rw [List.length_map]; omega) ?_
        have sm2 : Same H (upd H' fo (.lst (List.map V.int fs ++ [.int (b' - 1)]))) := same_mut sm nfo
        have hs2 : SqT K (upd H' fo (.lst (List.map V.int fs ++ [.int (b' - 1)]))) c [.str (Str.ofString "tree"), .ref d] := same_seqT sm2 hs
        wtm_at "s"
        refine k_ixI (sm2.seq hdl) (by omega) (by omega) ?_
        wtm_at "s"
        refine ⟨(a' + ps.getD (b' - 1).toNat 0).toNat, _, _, fs ++ [b' - 1], by omega, rfl, sm2, by rw [upd_same, List.map_append]; rfl, a0, a1, by omega, by omega, ?_, by omega, ?_, fun t => ?_, fun t z => ?_⟩
        · refine List.nodup_append.mpr ⟨nd, by simp, fun x hx y hy e => ?_⟩
          have : y = b' - 1 := by simpa using hy
          subst this; subst e
          exact hn _ hx ((sym _ _ _).mpr ⟨by omega, by omega, (tree_step ok b0 b1 a0 c3 (by omega)).1.mpr (.inl rfl)⟩)
        · rw [List.length_append]; show ((fs.length + 1 : Nat) : Int) + _ ≤ _; omega
        · rw [ht t, List.mem_append, sym a' b', sym a' (ps.getD (b' - 1).toNat 0)]
          show t ∈ fs ∨ (0 ≤ t ∧ t < ps.length ∧ _) ↔ (t ∈ fs ∨ t ∈ [b' - 1]) ∨ (0 ≤ t ∧ t < ps.length ∧ _)
          by_cases r : 0 ≤ t ∧ t < ps.length
          · have st := (tree_step ok b0 b1 a0 c3 r.1).1
            simp only [r.1, r.2, true_and, List.mem_singleton, st, or_assoc]
          · have : t ≠ b' - 1 := fun e => r (by omega)
            constructor
            · rintro (h | h)
              · exact .inl (.inl h)
              · exact absurd ⟨h.1, h.2.1⟩ r
            · rintro ((h | h) | h)
              · exact .inl h
              · exact absurd (by simpa using h) this
              · exact absurd ⟨h.1, h.2.1⟩ r
        · rw [sym]
          rcases List.mem_append.mp z with z | z
          · rintro ⟨o1, o2, o3⟩
            exact hn t z ((sym _ _ _).mpr ⟨o1, o2, (tree_step ok b0 b1 a0 c3 o1).1.mpr (.inr o3)⟩)
          · have e : t = b' - 1 := by simpa using z
            rintro ⟨o1, o2, o3⟩
            exact (tree_step ok b0 b1 a0 c3 o1).2 e o3
    · subst c1
      wtm_at "s"
      refine k_sortedI (sl hf) (fun ns l pm srt nl => ?_)
      refine q l ns _ (sm.free nl) (sm.trans (same_new nl)) upd_same ⟨srt_of nd pm srt, fun t => ?_, ?_⟩
      · rw [pm.mem_iff, ht t]
        constructor
        · exact .inl
        · rintro (h | h)
          · exact h
          · exact absurd rfl h.2.2
      · show ns.length < 120
        rw [pm.length_eq]; omega
abbrev sp_ties_on (K : PySem.W.Frag) : Sp := fun vs H Q E => ∃ v0 v1, vs = [v0, v1] ∧ pr_ties_on K v0 v1 H Q E
theorem ok_ties_on (T : Txt K mg A) : FnOk P w K mg base CX0 1 A.a_ties_on A.d_ties_on ["net", "way"] (sp_ties_on K) := by
  refine T.F_ties_on.ok sc_ties_on (fun vs H Q E h => by obtain ⟨v0, v1, rfl, _⟩ := h; rfl) (fun cdv A0 outer s H vs Q E hr h => ?_)
  obtain ⟨v0, v1, rfl, h⟩ := h
  exact ⟨t_ties_on K, (pss_cons (ps_asg (pv 1) (pg_tup (by rfl) (pgs_cons (pg_name (i := 2) sc_ties_on.nd rfl (Or.inl rfl)) (pgs_cons (pg_name (i := 3) sc_ties_on.nd rfl (Or.inl rfl)) pgs_nil))))
      (pss_cons (ps_set (i := 4) sc_ties_on.nd rfl (Or.inl rfl) (pe_lst pa_nil))
      (pss_cons (ps_if (pt_cmpR op_eq (pe_ix ix_tup (pv 0) pe_int (fun _ _ => rfl)) pe_str (nomark _)) (pss_one (ps_ret (pe_listRg (by rfl) (by rfl) T.z_list (prg_2 (by rfl) T.z_range (pe_callB (q_min2 (by rfl)) (by rfl) T.z_min (by decide +kernel) (pa_cons (pv 2) (pa_cons (pv 3) pa_nil))) (pe_callB (q_max2 (by rfl)) (by rfl) T.z_max (by decide +kernel) (pa_cons (pv 2) (pa_cons (pv 3) pa_nil))))))) pss_nil)
      (pss_cons (ps_while PassesOwn.never (pt_cmpR op_ne (pv 2) (pv 3) (nomark _))
      (pss_one (ps_if (pt_cmpR op_eq (pe_ix ix_tup (pv 0) pe_int (fun _ _ => rfl)) pe_str (nomark _)) (pss_cons (ps_expr (pe_bm PySem.F.plainAttrs_list PySem.F.slot_list_append PySem.F.type_list_append mt_append (pv 4) (pa_cons (pv 2) pa_nil)))
      (pss_one (ps_set (i := 2) sc_ties_on.nd rfl (Or.inl rfl) (pe_op op_mod (pe_op op_add (pv 2) pe_int) (pe_ix ix_tup (pv 0) pe_int (fun _ _ => rfl)))))) (pss_one (ps_if (pt_cmpR op_gt (pv 2) (pv 3) (nomark _)) (pss_cons (ps_expr (pe_bm PySem.F.plainAttrs_list PySem.F.slot_list_append PySem.F.type_list_append mt_append (pv 4) (pa_cons (pe_op op_sub (pv 2) pe_int) pa_nil)))
      (pss_one (ps_set (i := 2) sc_ties_on.nd rfl (Or.inl rfl) (pe_ix ix_list (pe_ix ix_tup (pv 0) pe_int (fun _ _ => rfl)) (pe_op op_sub (pv 2) pe_int) (fun _ _ => rfl))))) (pss_cons (ps_expr (pe_bm PySem.F.plainAttrs_list PySem.F.slot_list_append PySem.F.type_list_append mt_append (pv 4) (pa_cons (pe_op op_sub (pv 3) pe_int) pa_nil)))
      (pss_one (ps_set (i := 3) sc_ties_on.nd rfl (Or.inl rfl) (pe_ix ix_list (pe_ix ix_tup (pv 0) pe_int (fun _ _ => rfl)) (pe_op op_sub (pv 3) pe_int) (fun _ _ => rfl))))))))))
      (pss_one (ps_ret (pe_callB cr_sortedI (by rfl) T.z_sorted (by decide +kernel) (pa_cons (pv 4) pa_nil)))))))), pure_ties_on h⟩
/-- the numbers below n that P takes -/
def keepI (n : Nat) (P : Nat → Bool) : List Int := ((List.range n).filter P).map fun (i : Nat) => (i : Int)
theorem keepI_fm (n : Nat) (P : Nat → Bool) : (List.range n).filterMap (fun i => if P i = true then some (V.int (0 + (i : Nat))) else none) = List.map V.int (keepI n P) := by
  unfold keepI
  rw [List.map_map]
  induction (List.range n) with
  | nil => rfl
  | cons x r ih =>
    by_cases c : P x = true
    · rw [List.filterMap_cons, if_pos c, List.filter_cons, if_pos c]
      simp only [List.map_cons]
      rw [ih]
      simp
    · rw [List.filterMap_cons, if_neg c, List.filter_cons, if_neg c]
      exact ih
theorem keepI_srt (n : Nat) (P : Nat → Bool) : (keepI n P).Pairwise (· < ·) := by
  unfold keepI
  exact List.pairwise_map.mpr ((List.pairwise_lt_range.filter P).imp fun h => by omega)
theorem keepI_mem {n : Nat} {P : Nat → Bool} {t : Int} : t ∈ keepI n P ↔ 0 ≤ t ∧ t < n ∧ P t.toNat = true := by
  unfold keepI
  rw [List.mem_map]
  constructor
  · rintro ⟨i, hi, rfl⟩
    obtain ⟨h1, h2⟩ := List.mem_filter.mp hi
    have := List.mem_range.mp h1
    exact ⟨by omega, by omega, by rw [Int.toNat_natCast]; exact h2⟩
  · rintro ⟨h0, h1, h2⟩
    exact ⟨t.toNat, List.mem_filter.mpr ⟨List.mem_range.mpr (by omega), h2⟩, by omega⟩
def pr_must_be_ways (K : PySem.W.Frag) (v0 v1 : V) (H : Hp) (Q : VK) (_ : XK) : Prop := ∃ (N : Net) (ws : List (Int × Int)), Dp K H v0 N.d ∧ Dp K H v1 (dPairs ws) ∧ ws.length ≤ 10000 ∧ (∀ w ∈ ws, isWay N w.1 w.2) ∧ Q .non H
def t_must_be_ways (K : PySem.W.Frag) : TS :=
  (tFor (iRng1 (tCons (tCB (rLenX K) (tCons (tVar 1) tNil)) tNil)) (gName 2)
      (tIfS (tNot (tB (tCall (sp_is_way K) [] E0 (tCons (tVar 0) (tCons (tOp (rIxL K) (tVar 1) (tVar 2)) tNil))))) tNever tNext))
theorem pure_must_be_ways {v0 v1 : V} {H : Hp} {Q : VK} {E : XK} (h : pr_must_be_ways K v0 v1 H Q E) : t_must_be_ways K ⟨fun _ H' => Q .non H', Q, fun _ _ => False, fun _ _ => False⟩ [some v0, some v1, none] H := by
  obtain ⟨N, ws, hd, hw, hz, hok, q⟩ := h
  obtain ⟨b, xs, rfl, hb, hxs⟩ := dp_list hw
  have hl := dpa_len hxs
  rw [List.length_map] at hl
  unfold t_must_be_ways
  wtm_at "s"
  rw [hl]
  refine forR (fun i σ' H' => H' = H ∧ ∃ k, σ' = [some v0, some (.ref b), k]) ⟨rfl, none, rfl⟩ ?_ (fun σ' H' ⟨e, _⟩ => e ▸ q)
  rintro i σ' H' hi ⟨rfl, k, rfl⟩
  have hi' : i < xs.length := by omega
  obtain ⟨x, hx⟩ : ∃ x, xs[i]? = some x := ⟨xs[i], List.getElem?_eq_getElem hi'⟩
  obtain ⟨d, hd1, hd2⟩ := dpa_get hxs hx
  rw [List.getElem?_map] at hd1
  obtain ⟨w, hw1, rfl⟩ := Option.map_eq_some_iff.mp hd1
  have wok := hok w (List.mem_of_getElem? hw1)
  wtm_at "s"
  refine k_ixL hb (by rw [Int.zero_add]; exact atI_nat hx) ?_
  wtm_at "s"
  refine ⟨_, _, rfl, N, w.1, w.2, hd, hd2, ?_⟩
  rw [decide_eq_true wok]
  wtm_at "s"
  exact ⟨rfl, _, rfl⟩
abbrev sp_must_be_ways (K : PySem.W.Frag) : Sp := fun vs H Q E => ∃ v0 v1, vs = [v0, v1] ∧ pr_must_be_ways K v0 v1 H Q E
theorem ok_must_be_ways (T : Txt K mg A) : FnOk P w K mg base CX0 3 A.a_must_be_ways A.d_must_be_ways ["net", "ways"] (sp_must_be_ways K) := by
  refine T.F_must_be_ways.ok sc_must_be_ways (fun vs H Q E h => by obtain ⟨v0, v1, rfl, _⟩ := h; rfl) (fun cdv A0 outer s H vs Q E hr h => ?_)
  obtain ⟨v0, v1, rfl, h⟩ := h
  exact ⟨t_must_be_ways K, (pss_one (ps_for PassesOwn.never rfl (pi_range1 (by rfl) T.z_range (pa_cons (pe_callB q_len (by rfl) T.z_len (by decide +kernel) (pa_cons (pv 1) pa_nil)) pa_nil)) (pg_name (i := 2) sc_must_be_ways.nd rfl (Or.inl rfl))
      (pss_one (ps_if (pt_not (pt_val (pe_call (ok_is_way (mg := mg) (base := base) T) (hr.mono (by decide)) (by rfl) T.g_is_way T.F_is_way.kp T.b_is_way .nil pass0 (pa_cons (pv 0) (pa_cons (pe_ix ix_list (pv 1) (pv 2) (fun _ _ => rfl)) pa_nil))))) (pss_one ps_never) pss_nil)))), pure_must_be_ways h⟩
def pr_look_ways (K : PySem.W.Frag) (v0 v1 : V) (H : Hp) (Q : VK) (_ : XK) : Prop := ∃ (N : Net) (ws : List (Int × Int)), Dp K H v0 N.d ∧ N.ok ∧ Dp K H v1 (dPairs ws) ∧ ws.length ≤ 10000 ∧ (∀ w ∈ ws, isWay N w.1 w.2) ∧ Q .non H
def t_look_ways (K : PySem.W.Frag) : TS :=
  (tSeq (tDrop (tCall (sp_look_net K) [] E0 (tCons (tVar 0) tNil)))
    (tDrop (tCall (sp_must_be_ways K) [] E0 (tCons (tVar 0) (tCons (tVar 1) tNil)))))
theorem pure_look_ways {v0 v1 : V} {H : Hp} {Q : VK} {E : XK} (h : pr_look_ways K v0 v1 H Q E) : t_look_ways K ⟨fun _ H' => Q .non H', Q, fun _ _ => False, fun _ _ => False⟩ [some v0, some v1] H := by
  obtain ⟨N, ws, hd, ok, hw, hz, hok, q⟩ := h
  unfold t_look_ways
  wtm_at "s"
  refine ⟨_, rfl, N, hd, ok, ?_⟩
  wtm_at "s"
  exact ⟨_, _, rfl, N, ws, hd, hw, hz, hok, q⟩
abbrev sp_look_ways (K : PySem.W.Frag) : Sp := fun vs H Q E => ∃ v0 v1, vs = [v0, v1] ∧ pr_look_ways K v0 v1 H Q E
theorem ok_look_ways (T : Txt K mg A) : FnOk P w K mg base CX0 4 A.a_look_ways A.d_look_ways ["net", "ways"] (sp_look_ways K) := by
  refine T.F_look_ways.ok sc_look_ways (fun vs H Q E h => by obtain ⟨v0, v1, rfl, _⟩ := h; rfl) (fun cdv A0 outer s H vs Q E hr h => ?_)
  obtain ⟨v0, v1, rfl, h⟩ := h
  exact ⟨t_look_ways K, (pss_cons (ps_expr (pe_call (ok_look_net (mg := mg) (base := base) T) (hr.mono (by decide)) (by rfl) T.g_look_net T.F_look_net.kp T.b_look_net .nil pass0 (pa_cons (pv 0) pa_nil)))
      (pss_one (ps_expr (pe_call (ok_must_be_ways (mg := mg) (base := base) T) (hr.mono (by decide)) (by rfl) T.g_must_be_ways T.F_must_be_ways.kp T.b_must_be_ways .nil pass0 (pa_cons (pv 0) (pa_cons (pv 1) pa_nil)))))), pure_look_ways h⟩
def pr_counted (K : PySem.W.Frag) (v0 v1 : V) (H : Hp) (Q : VK) (_ : XK) : Prop := ∃ (N : Net) (ws : List (Int × Int)), Dp K H v0 N.d ∧ N.ok ∧ Dp K H v1 (dPairs ws) ∧ ws.length ≤ 10000 ∧ (∀ w ∈ ws, isWay N w.1 w.2) ∧
  ∀ p H', H p = none → Same H H' → H' p = some (.lst (List.map V.int (loadsOf N ws))) → Q (.ref p) H'
def t_counted (K : PySem.W.Frag) : TS :=
  (tSeq (tAsg (tOp rRep (tLst (tCons (tC (.int 0)) tNil)) (tCall (sp_ties_many K) [] E0 (tCons (tVar 0) tNil))) (gName 2))
    (tSeq (tFor (iList K (tVar 1)) (gName 3)
      (tFor (iList K (tCall (sp_ties_on K) [] E0 (tCons (tVar 0) (tCons (tVar 3) tNil)))) (gName 4)
      (xAugL K (tVar 2) (tVar 4) (tC (.int 1)))))
    (tRet (tVar 2))))
def fl (n : Nat) (f : Nat → Int) : List Int := (List.range n).map f
theorem fl_len (n : Nat) (f : Nat → Int) : (fl n f).length = n := by unfold fl; simp
theorem fl_get {n : Nat} {f : Nat → Int} {i : Nat} (h : i < n) : (fl n f).getD i 0 = f i := by
  unfold fl
  rw [List.getD_eq_getElem?_getD, List.getElem?_map, List.getElem?_range h]; rfl
theorem fl_set {n : Nat} {f : Nat → Int} {i : Nat} {v : Int} : (fl n f).set i v = fl n fun s => if s = i then v else f s := by
  unfold fl
  apply List.ext_getElem
  · simp
  · intro j h1 h2
    rw [List.getElem_set]
    simp only [List.getElem_map, List.getElem_range]
    by_cases c : i = j
    · rw [if_pos c, if_pos c.symm]
    · rw [if_neg c, if_neg fun e => c e.symm]
theorem fl_congr {n : Nat} {f g : Nat → Int} (h : ∀ i, i < n → f i = g i) : fl n f = fl n g := by
  unfold fl
  exact List.map_congr_left fun i hi => h i (List.mem_range.mp hi)
theorem pure_counted {v0 v1 : V} {H : Hp} {Q : VK} {E : XK} (h : pr_counted K v0 v1 H Q E) : t_counted K ⟨fun _ H' => Q .non H', Q, fun _ _ => False, fun _ _ => False⟩ [some v0, some v1, none, none, none] H := by
  obtain ⟨N, ws, hd, ok, hw, hz, hok, q⟩ := h
  obtain ⟨b, xs, rfl, hb, hxs⟩ := dp_list hw
  have hl := dpa_len hxs
  rw [List.length_map] at hl
  obtain ⟨t0, t1⟩ := ties_le ok
  unfold t_counted
  wtm_at "s"
  refine ⟨sz (by simp), fun z0 nz0 => ?_⟩
  have s1 := same_new (o := .lst [.int 0]) nz0
  have e1 := upd_same (H := H) (a := z0) (o := .lst [.int 0])
  generalize upd H z0 (.lst [.int 0]) = H1 at s1 e1 ⊢
  wtm_at "s"
  refine ⟨_, rfl, N, dp_same s1 hd, ok, ?_⟩
  refine k_rep e1 (by omega) (by omega) (by simp; omega) (fun fo nfo => ?_)
  have s2 := same_new (o := .lst (List.replicate (N.ties : Int).toNat [V.int 0]).flatten) nfo
  have e2 : upd H1 fo (.lst (List.replicate (N.ties : Int).toNat [V.int 0]).flatten) fo = some (.lst (List.map V.int (fl N.ties fun t => (cnt N (ws.take 0) (t : Nat) : Int)))) := by
    rw [upd_same]
    have : ∀ n : Nat, (List.replicate n [V.int 0]).flatten = List.map V.int (fl n fun t => (cnt N (ws.take 0) (t : Nat) : Int)) := fun n => by
      unfold fl
      rw [List.map_map]
      apply List.ext_getElem
      · simp
      · intro i h1 h2
        simp [cnt]
    rw [Int.toNat_natCast, this]
  generalize upd H1 fo (.lst (List.replicate (N.ties : Int).toNat [V.int 0]).flatten) = H2 at s2 e2 ⊢
  have nfo0 : H fo = none := s1.free nfo
  have s02 := s1.trans s2
  wtm_at "s"
  refine forL (s02.seq hb) (fun i σ' H' => Same H H' ∧ H' fo = some (.lst (List.map V.int (fl N.ties fun t => (cnt N (ws.take i) (t : Nat) : Int)))) ∧ ∃ k3 k4, σ' = [some v0, some (.ref b), some (.ref fo), k3, k4]) ⟨s02, e2, none, none, rfl⟩ (fun i σ' H' _ e => e.1.seq hb) ?_ ?_
  · rintro i x σ' H' hx ⟨sm, hf, k3, k4, rfl⟩
    obtain ⟨d, hd1, hd2⟩ := dpa_get hxs hx
    rw [List.getElem?_map] at hd1
    obtain ⟨w, hw1, rfl⟩ := Option.map_eq_some_iff.mp hd1
    have wok := hok w (List.mem_of_getElem? hw1)
    have ct := cnt_take (N := N) hw1
    wtm_at "s"
    refine ⟨_, _, rfl, N, w.1, w.2, dp_same sm hd, dp_same sm hd2, ok, wok, fun tl ns H3 ntl s3 htl tt => ?_⟩
    have ntf : tl ≠ fo := fun e => by rw [e, hf] at ntl; cases ntl
    have inr : ∀ t ∈ ns, 0 ≤ t ∧ t < N.ties := fun t ht => on_range ok wok ((tt.mem t).mp ht)
    refine forL (sl htl) (fun j σ' H' => Same H H' ∧ H' tl = some (.lst (List.map V.int ns)) ∧ H' fo = some (.lst (List.map V.int (fl N.ties fun t => (cnt N (ws.take i) (t : Nat) : Int) + if (t : Int) ∈ ns.take j then 1 else 0))) ∧ ∃ k4, σ' = [some v0, some (.ref b), some (.ref fo), some x, k4])
      ⟨sm.trans s3, htl, by rw [s3 _ _ hf]; simp, k4, rfl⟩ (fun i σ' H' _ e => sl e.2.1) ?_ ?_
    · rintro j y σ' H4 hy ⟨s4, htl4, hf4, k4, rfl⟩
      rw [List.getElem?_map] at hy
      obtain ⟨t, ht, rfl⟩ := Option.map_eq_some_iff.mp hy
      obtain ⟨r0, r1⟩ := inr t (List.mem_of_getElem? ht)
      wtm_at "s"
      refine k_getI (sl hf4) r0 (by rw [fl_len]; exact r1) ?_
      wtm_at "s"
      refine k_setI hf4 r0 (by rw [fl_len]; exact r1) ?_
      rw [fl_get (by omega), fl_set]
      refine ⟨same_mut s4 nfo0, by rw [upd_ne ntf]; exact htl4, ?_, _, rfl⟩
      rw [upd_same]
      congr 3
      refine fl_congr fun s hs => ?_
      have nin : t ∉ ns.take j := fun z => by
        obtain ⟨m, hm, e⟩ := List.mem_take_iff_getElem.mp z
        have lt := List.pairwise_iff_getElem.mp tt.srt m j (by omega) (List.getElem?_eq_some_iff.mp ht).1 (by omega)
        rw [e, (List.getElem?_eq_some_iff.mp ht).2] at lt
        omega
      rw [List.take_add_one, ht]
      by_cases c : s = t.toNat
      · subst c
        have e : ((t.toNat : Nat) : Int) = t := by omega
        rw [if_pos rfl, e, if_neg nin, if_pos (by simp)]
        omega
      · have c' : ¬ (s : Int) = t := fun e => c (by omega)
        rw [if_neg c]
        congr 1
        simp [c']
    · rintro σ' H4 ⟨s4, htl4, hf4, k4, rfl⟩
      refine ⟨s4, ?_, _, _, rfl⟩
      rw [hf4]
      congr 3
      refine fl_congr fun s hs => ?_
      rw [ct, List.length_map, List.take_length]
      by_cases c : OnTie N w.1 w.2 s
      · rw [if_pos c, if_pos ((tt.mem _).mpr c)]; omega
      · rw [if_neg c, if_neg fun z => c ((tt.mem _).mp z)]; omega
  · rintro σ' H' ⟨sm, hf, k3, k4, rfl⟩
    rw [hl, List.take_length] at hf
    wtm_at "s"
    exact q fo H' nfo0 sm hf
abbrev sp_counted (K : PySem.W.Frag) : Sp := fun vs H Q E => ∃ v0 v1, vs = [v0, v1] ∧ pr_counted K v0 v1 H Q E
theorem ok_counted (T : Txt K mg A) : FnOk P w K mg base CX0 3 A.a_counted A.d_counted ["net", "ways"] (sp_counted K) := by
  refine T.F_counted.ok sc_counted (fun vs H Q E h => by obtain ⟨v0, v1, rfl, _⟩ := h; rfl) (fun cdv A0 outer s H vs Q E hr h => ?_)
  obtain ⟨v0, v1, rfl, h⟩ := h
  exact ⟨t_counted K, (pss_cons (ps_set (i := 2) sc_counted.nd rfl (Or.inl rfl) (pe_op op_rep (pe_lst (pa_cons pe_int pa_nil)) (pe_call (ok_ties_many (mg := mg) (base := base) T) (hr.mono (by decide)) (by rfl) T.g_ties_many T.F_ties_many.kp T.b_ties_many .nil pass0 (pa_cons (pv 0) pa_nil))))
      (pss_cons (ps_for PassesOwn.never rfl (pi_list (pv 1)) (pg_name (i := 3) sc_counted.nd rfl (Or.inl rfl))
      (pss_one (ps_for PassesOwn.never rfl (pi_list (pe_call (ok_ties_on (mg := mg) (base := base) T) (hr.mono (by decide)) (by rfl) T.g_ties_on T.F_ties_on.kp T.b_ties_on .nil pass0 (pa_cons (pv 0) (pa_cons (pv 3) pa_nil)))) (pg_name (i := 4) sc_counted.nd rfl (Or.inl rfl))
      (pss_one (q_augL (pv 2) (pv 4) pe_int)))))
      (pss_one (ps_ret (pv 2))))), pure_counted h⟩


theorem nodup_below : ∀ (n : Nat) (l : List Int), l.Nodup → (∀ x ∈ l, 0 ≤ x ∧ x < n) → l.length ≤ n
  | 0, l, _, h => by
    cases l with
    | nil => simp
    | cons x r => have := h x List.mem_cons_self; omega
  | n + 1, l, nd, h => by
    have e : l.length = l.countP (fun x => decide (x = (n : Int))) + l.countP (fun x => !decide (x = (n : Int))) := by
      have := List.length_eq_countP_add_countP (fun x : Int => decide (x = (n : Int))) (l := l)
      rw [this]
      congr 1
      exact List.countP_congr fun x _ => by simp
    have c1 : l.countP (fun x => decide (x = (n : Int))) ≤ 1 := by
      have := List.nodup_iff_count.mp nd (n : Int)
      rw [List.count_eq_countP] at this
      have e2 : l.countP (fun x => decide (x = (n : Int))) = l.countP (· == (n : Int)) := List.countP_congr fun x _ => by simp
      rw [e2]; exact this
    have c2 := nodup_below n (l.filter fun x => !decide (x = (n : Int))) (nd.filter _) (fun x hx => by
      obtain ⟨h1, h2⟩ := List.mem_filter.mp hx
      have := h x h1
      simp at h2
      omega)
    rw [← List.countP_eq_length_filter] at c2
    omega
theorem firstMet_nd (val : Nat → Int) : ∀ i, (PyProof.Rows.firstMet val i).Nodup ∧ ∀ x ∈ PyProof.Rows.firstMet val i, ∃ j, j < i ∧ x = val j
  | 0 => ⟨List.nodup_nil, fun x z => by cases z⟩
  | i + 1 => by
    obtain ⟨h1, h2⟩ := firstMet_nd val i
    rw [PyProof.Rows.firstMet_succ]
    unfold PyProof.Rows.step_dedup
    split
    · exact ⟨h1, fun x hx => by obtain ⟨j, hj, e⟩ := h2 x hx; exact ⟨j, by omega, e⟩⟩
    · rename_i c
      refine ⟨?_, fun x hx => ?_⟩
      · rw [List.nodup_append]
        refine ⟨h1, by simp, fun x hx y hy e => ?_⟩
        rw [List.mem_singleton.mp hy] at e
        refine c (List.any_eq_true.mpr ⟨x, hx, by simp [e]⟩)
      · rcases List.mem_append.mp hx with hx | hx
        · obtain ⟨j, hj, e⟩ := h2 x hx; exact ⟨j, by omega, e⟩
        · exact ⟨i, by omega, List.mem_singleton.mp hx⟩
theorem unl_below {hs : List Int} {n : Nat} (h : ∀ x ∈ hs, 0 ≤ x ∧ x < n) : unl hs ≤ n := by
  obtain ⟨h1, h2⟩ := firstMet_nd (fun i => hs.getD i 0) hs.length
  refine nodup_below n _ h1 fun x hx => ?_
  obtain ⟨j, hj, rfl⟩ := h2 x hx
  refine h _ ?_
  show hs.getD j 0 ∈ hs
  rw [List.getD_eq_getElem?_getD, List.getElem?_eq_getElem hj]
  exact List.getElem_mem hj
theorem ss_ext : ∀ {xs ys : List Int}, xs.Pairwise (· < ·) → ys.Pairwise (· < ·) → (∀ t, t ∈ xs ↔ t ∈ ys) → xs = ys
  | [], [], _, _, _ => rfl
  | [], y :: ys, _, _, h => by have := (h y).mpr List.mem_cons_self; cases this
  | x :: xs, [], _, _, h => by have := (h x).mp List.mem_cons_self; cases this
  | x :: xs, y :: ys, h1, h2, h => by
    obtain ⟨a1, a2⟩ := List.pairwise_cons.mp h1
    obtain ⟨b1, b2⟩ := List.pairwise_cons.mp h2
    have e : x = y := by
      rcases List.mem_cons.mp ((h x).mp List.mem_cons_self) with e | e
      · exact e
      · rcases List.mem_cons.mp ((h y).mpr List.mem_cons_self) with e' | e'
        · exact e'.symm
        · have := b1 _ e; have := a1 _ e'; omega
    subst e
    congr 1
    refine ss_ext a2 b2 fun t => ?_
    constructor
    · intro ht
      rcases List.mem_cons.mp ((h t).mp (List.mem_cons_of_mem _ ht)) with e | e
      · have := a1 _ ht; omega
      · exact e
    · intro ht
      rcases List.mem_cons.mp ((h t).mpr (List.mem_cons_of_mem _ ht)) with e | e
      · have := b1 _ ht; omega
      · exact e
/-! ### ways that meet -/
def tiesF (N : Net) (w : Int × Int) : List Int := keepI N.ties fun t => decide (OnTie N w.1 w.2 (t : Nat))
theorem tiesF_mem {N : Net} (ok : N.ok) {w : Int × Int} (hw : isWay N w.1 w.2) (t : Int) : t ∈ tiesF N w ↔ OnTie N w.1 w.2 t := by
  unfold tiesF
  rw [keepI_mem]
  constructor
  · rintro ⟨h1, h2, h3⟩
    have := of_decide_eq_true h3
    rwa [Int.toNat_of_nonneg h1] at this
  · intro h
    obtain ⟨h1, h2⟩ := on_range ok hw h
    exact ⟨h1, h2, decide_eq_true (by rw [Int.toNat_of_nonneg h1]; exact h)⟩
theorem tiesF_len (N : Net) (w : Int × Int) : (tiesF N w).length ≤ N.ties := by
  unfold tiesF keepI
  rw [List.length_map]
  have := List.length_filter_le (fun t : Nat => decide (OnTie N w.1 w.2 (t : Nat))) (List.range N.ties)
  rwa [List.length_range] at this
theorem tiesF_of {N : Net} (ok : N.ok) {w : Int × Int} (hw : isWay N w.1 w.2) {ns : List Int} (hs : ns.Pairwise (· < ·)) (hm : ∀ t, t ∈ ns ↔ OnTie N w.1 w.2 t) : ns = tiesF N w :=
  ss_ext hs (keepI_srt _ _) fun t => by rw [hm t, tiesF_mem ok hw t]
def commonB (xs ys : List Int) : Bool := xs.any fun t => decide (t ∈ ys)
theorem common_iff {xs ys : List Int} : commonB xs ys = true ↔ ∃ t, t ∈ xs ∧ t ∈ ys := by
  unfold commonB
  rw [List.any_eq_true]
  constructor
  · rintro ⟨t, h1, h2⟩; exact ⟨t, h1, of_decide_eq_true h2⟩
  · rintro ⟨t, h1, h2⟩; exact ⟨t, h1, decide_eq_true h2⟩
theorem common_comm (xs ys : List Int) : commonB xs ys = commonB ys xs := by
  rw [Bool.eq_iff_iff, common_iff, common_iff]
  constructor <;> rintro ⟨t, h1, h2⟩ <;> exact ⟨t, h2, h1⟩
def meetB (N : Net) (w v : Int × Int) : Bool := commonB (tiesF N w) (tiesF N v)
def meetRow (N : Net) (ws : List (Int × Int)) (i : Nat) : List Int := keepI ws.length fun k => decide (k ≠ i) && meetB N (ws.getD i (0, 0)) (ws.getD k (0, 0))
def meetF (N : Net) (ws : List (Int × Int)) : List (List Int) := (List.range ws.length).map (meetRow N ws)
/-- who meets whom -/
structure Adj (M : List (List Int)) : Prop where
  rng : ∀ (i : Nat), ∀ o ∈ M.getD i [], 0 ≤ o ∧ o < M.length ∧ o ≠ (i : Int)
  sym : ∀ (i j : Nat), i < M.length → j < M.length → ((j : Int) ∈ M.getD i [] ↔ (i : Int) ∈ M.getD j [])
  len : ∀ r ∈ M, r.length ≤ M.length
theorem meetF_len (N : Net) (ws : List (Int × Int)) : (meetF N ws).length = ws.length := by unfold meetF; rw [List.length_map, List.length_range]
theorem meetF_get {N : Net} {ws : List (Int × Int)} {i : Nat} (h : i < ws.length) : (meetF N ws).getD i [] = meetRow N ws i := by
  unfold meetF
  rw [List.getD_eq_getElem?_getD, List.getElem?_map, List.getElem?_range h]; rfl
theorem meetRow_mem {N : Net} {ws : List (Int × Int)} {i j : Nat} : (j : Int) ∈ meetRow N ws i ↔ j < ws.length ∧ j ≠ i ∧ meetB N (ws.getD i (0, 0)) (ws.getD j (0, 0)) = true := by
  unfold meetRow
  rw [keepI_mem]
  simp only [Int.toNat_natCast, Bool.and_eq_true, decide_eq_true_eq]
  constructor
  · rintro ⟨_, h1, h2, h3⟩; exact ⟨by omega, h2, h3⟩
  · rintro ⟨h1, h2, h3⟩; exact ⟨by omega, by omega, h2, h3⟩
theorem meetF_adj (N : Net) (ws : List (Int × Int)) : Adj (meetF N ws) := by
  refine ⟨fun i o ho => ?_, fun i j hi hj => ?_, fun r hr => ?_⟩
  · rw [meetF_len]
    by_cases c : i < ws.length
    · rw [meetF_get c] at ho
      have h0 : 0 ≤ o := (keepI_mem.mp ho).1
      obtain ⟨j, rfl⟩ : ∃ j : Nat, o = j := ⟨o.toNat, by omega⟩
      obtain ⟨h1, h2, _⟩ := meetRow_mem.mp ho
      exact ⟨h0, by omega, by omega⟩
    · rw [List.getD_eq_getElem?_getD, List.getElem?_eq_none (by rw [meetF_len]; omega)] at ho
      cases ho
  · rw [meetF_len] at hi hj
    rw [meetF_get hi, meetF_get hj, meetRow_mem, meetRow_mem]
    unfold meetB
    rw [common_comm]
    constructor
    · rintro ⟨_, h2, h3⟩; exact ⟨hi, fun z => h2 z.symm, h3⟩
    · rintro ⟨_, h2, h3⟩; exact ⟨hj, fun z => h2 z.symm, h3⟩
  · rw [meetF_len]
    obtain ⟨i, _, rfl⟩ := List.mem_map.mp hr
    unfold meetRow keepI
    rw [List.length_map]
    have := List.length_filter_le (fun k => decide (k ≠ i) && meetB N (ws.getD i (0, 0)) (ws.getD k (0, 0))) (List.range ws.length)
    rwa [List.length_range] at this
/-- ways of one hue do not meet -/
theorem meet_iff {N : Net} (ok : N.ok) {w v : Int × Int} (hw : isWay N w.1 w.2) (hv : isWay N v.1 v.2) : meetB N w v = true ↔ ∃ t, OnTie N w.1 w.2 t ∧ OnTie N v.1 v.2 t := by
  unfold meetB
  rw [common_iff]
  constructor
  · rintro ⟨t, a, b⟩; exact ⟨t, (tiesF_mem ok hw t).mp a, (tiesF_mem ok hv t).mp b⟩
  · rintro ⟨t, a, b⟩; exact ⟨t, (tiesF_mem ok hw t).mpr a, (tiesF_mem ok hv t).mpr b⟩
theorem missF : ∀ (n : Nat) (l : List Int), l.length < n → ∃ j : Nat, j < n ∧ (j : Int) ∉ l
  | 0, _, h => by omega
  | n + 1, l, h => by
    by_cases c : (n : Int) ∈ l
    · obtain ⟨j, h1, h2⟩ := missF n (l.erase n) (by rw [List.length_erase_of_mem c]; have := List.length_pos_of_mem c; omega)
      exact ⟨j, by omega, fun z => h2 ((List.mem_erase_of_ne (by omega)).mpr z)⟩
    · exact ⟨n, by omega, c⟩
theorem up_lin {n t a x : Int} (t0 : 0 ≤ t) (t1 : t < n) (a0 : 0 ≤ a) (a1 : a < n) (x0 : 0 ≤ x) (x1 : x < n) : up n a x = if up n t a ≤ up n t x then up n t x - up n t a else up n t x - up n t a + n := by
  unfold up
  repeat' split
  all_goals omega
/-- a way that misses t, in places counted from t -/
theorem off_lin {n t : Int} (t0 : 0 ≤ t) (t1 : t < n) {w : Int × Int} (hw : isWay (.ring n) w.1 w.2) (no : ¬ OnTie (.ring n) w.1 w.2 t) : 1 ≤ up n t w.1 ∧ ∀ x, 0 ≤ x → x < n → (OnTie (.ring n) w.1 w.2 x ↔ up n t w.1 ≤ up n t x ∧ up n t x < up n t w.1 + up n w.1 w.2) := by
  obtain ⟨w1, w2, w3, w4, w5⟩ := hw
  have w4' : w.1 < n := w4
  have w5' : w.2 < n := w5
  have up0 := (ring_far w2 w4' w3 w5' w1).2.2.2.1
  have hat : up n w.1 t = if up n t w.1 ≤ up n t t then up n t t - up n t w.1 else up n t t - up n t w.1 + n := up_lin t0 t1 w2 w4' t0 t1
  rw [up_self] at hat
  have no' : ¬ up n w.1 t < up n w.1 w.2 := fun z => no ⟨t0, t1, z⟩
  have A0 := up_nonneg t0 t1 w2 w4'
  have A1 : 1 ≤ up n t w.1 := by
    refine Classical.byContradiction fun z => no' ?_
    have : up n t w.1 = 0 := by omega
    have e : t = w.1 := by
      unfold up at this
      split at this <;> omega
    rw [← e, up_self]
    rw [← e] at up0
    exact up0
  rw [if_neg (by omega)] at hat
  refine ⟨A1, fun x x0 x1 => ?_⟩
  have hx := up_lin t0 t1 w2 w4' x0 x1
  have X0 := up_nonneg t0 t1 x0 x1
  show (0 ≤ x ∧ x < n ∧ up n w.1 x < up n w.1 w.2) ↔ _
  rw [hx]
  split
  · constructor
    · rintro ⟨_, _, z⟩; omega
    · rintro ⟨_, z⟩; exact ⟨x0, x1, by omega⟩
  · constructor
    · rintro ⟨_, _, z⟩; omega
    · rintro ⟨z, _⟩; omega
/-! ### hues given one by one: the first that is free -/
def ffree (m : Nat) (T : List Int) : List Int := (List.range m).filterMap fun j => if ((j : Nat) : Int) ∈ T then none else some ((j : Nat) : Int)
theorem ffree_hd {m : Nat} {T L : List Int} (hT : ∀ x ∈ T, 0 ≤ x → x ∈ L) (hL : L.length < m) : ∃ h r, ffree m T = h :: r ∧ 0 ≤ h ∧ h ≤ L.length ∧ h ∉ T := by
  obtain ⟨j, hj, nj⟩ := missF (L.length + 1) L (by omega)
  have njT : (j : Int) ∉ T := fun z => nj (hT _ z (by omega))
  have mem : ((j : Nat) : Int) ∈ ffree m T := List.mem_filterMap.mpr ⟨j, List.mem_range.mpr (by omega), by rw [if_neg njT]⟩
  have srt : (ffree m T).Pairwise (· < ·) := by
    unfold ffree
    rw [List.pairwise_filterMap]
    refine List.pairwise_lt_range.imp fun {a b} hab x hx y hy => ?_
    split at hx
    · cases hx
    split at hy
    · cases hy
    cases hx
    cases hy
    show (a : Int) < (b : Int)
    omega
  cases e : ffree m T with
  | nil => rw [e] at mem; cases mem
  | cons h r =>
    have hm : h ∈ ffree m T := by rw [e]; exact List.mem_cons_self
    obtain ⟨i, _, hi⟩ := List.mem_filterMap.mp hm
    split at hi
    · cases hi
    · rename_i ni
      cases hi
      refine ⟨_, _, rfl, by omega, ?_, ni⟩
      rw [e] at mem srt
      rcases List.mem_cons.mp mem with z | z
      · omega
      · have := (List.pairwise_cons.mp srt).1 _ z
        omega
def gstep (m : Nat) (T : List Int → List Nat → Nat → List Int) (s : List Int × List Nat) (k : Nat) : List Int × List Nat := (s.1.set k ((ffree m (T s.1 s.2 k)).headD 0), s.2 ++ [k])
def gfold (m : Nat) (T : List Int → List Nat → Nat → List Int) (ord : List Nat) : List Int × List Nat := ord.foldl (gstep m T) (List.replicate m (-1), [])
theorem gfold_snoc (m : Nat) (T : List Int → List Nat → Nat → List Int) (ord : List Nat) (k : Nat) : gfold m T (ord ++ [k]) = gstep m T (gfold m T ord) k := by
  unfold gfold
  rw [List.foldl_append]; rfl
/-- the ways told have hues, no two alike of such as meet, none above B -/
structure GInv (m : Nat) (mt : Nat → Nat → Prop) (B : Nat → Int) (s : List Int × List Nat) (done : List Nat) : Prop where
  len : s.1.length = m
  ah : s.2 = done
  rg : ∀ j ∈ done, 0 ≤ s.1.getD j (-1) ∧ s.1.getD j (-1) ≤ B j
  not : ∀ j, j < m → j ∉ done → s.1.getD j (-1) = -1
  ap : ∀ i ∈ done, ∀ j ∈ done, i ≠ j → mt i j → s.1.getD i (-1) ≠ s.1.getD j (-1)
/-- what taken things must be -/
structure GTak (m : Nat) (mt : Nat → Nat → Prop) (B : Nat → Int) (s : List Int × List Nat) (done : List Nat) (k : Nat) (T : List Int) : Prop where
  meets : ∀ j ∈ done, mt k j → s.1.getD j (-1) ∈ T
  few : ∃ L : List Int, (∀ x ∈ T, 0 ≤ x → x ∈ L) ∧ (L.length : Int) ≤ B k ∧ L.length < m
theorem ginv_step {m : Nat} {mt : Nat → Nat → Prop} {B : Nat → Int} {T : List Int → List Nat → Nat → List Int} {s : List Int × List Nat} {done : List Nat} {k : Nat} (sy : ∀ i j, mt i j → mt j i) (g : GInv m mt B s done) (km : k < m) (kd : k ∉ done) (t : GTak m mt B s done k (T s.1 s.2 k)) :
    GInv m mt B (gstep m T s k) (done ++ [k]) := by
  obtain ⟨L, h1, h2, h3⟩ := t.few
  obtain ⟨h, r, e, a, b, c⟩ := ffree_hd h1 h3
  have es : (gstep m T s k).1 = s.1.set k h := by unfold gstep; rw [e]; rfl
  have at_k : (s.1.set k h).getD k (-1) = h := by
    rw [List.getD_eq_getElem?_getD, List.getElem?_set_self (by rw [g.len]; exact km)]; rfl
  have at_j : ∀ j, j ≠ k → (s.1.set k h).getD j (-1) = s.1.getD j (-1) := fun j hj => by
    rw [List.getD_eq_getElem?_getD, List.getElem?_set_ne (Ne.symm hj), List.getD_eq_getElem?_getD]
  have dk : ∀ j ∈ done, j ≠ k := fun j hj z => kd (z ▸ hj)
  refine ⟨by rw [es, List.length_set]; exact g.len, by unfold gstep; rw [g.ah], fun j hj => ?_, fun j hj nj => ?_, fun i hi j hj ij mij => ?_⟩
  · rw [es]
    rcases List.mem_append.mp hj with hj | hj
    · rw [at_j j (dk j hj)]
      exact g.rg j hj
    · rw [List.mem_singleton.mp hj, at_k]
      exact ⟨a, by omega⟩
  · rw [es, at_j j (fun z => nj (by rw [z]; simp))]
    exact g.not j hj (fun z => nj (by simp [z]))
  · rw [es]
    rcases List.mem_append.mp hi with a1 | a1 <;> rcases List.mem_append.mp hj with b1 | b1
    · rw [at_j i (dk i a1), at_j j (dk j b1)]
      exact g.ap i a1 j b1 ij mij
    · have ej := List.mem_singleton.mp b1
      rw [ej, at_k, at_j i (dk i a1)]
      rw [ej] at mij
      exact fun z => c (by rw [← z]; exact t.meets i a1 (sy _ _ mij))
    · have ei := List.mem_singleton.mp a1
      rw [ei, at_k, at_j j (dk j b1)]
      rw [ei] at mij
      exact fun z => c (by rw [z]; exact t.meets j b1 mij)
    · rw [List.mem_singleton.mp a1, List.mem_singleton.mp b1] at ij
      exact absurd rfl ij
theorem ginv_nil (m : Nat) (mt : Nat → Nat → Prop) (B : Nat → Int) (T : List Int → List Nat → Nat → List Int) : GInv m mt B (gfold m T []) [] := by
  refine ⟨by simp [gfold], rfl, (fun j hj => by cases hj), (fun j hj _ => ?_), (fun i hi => by cases hi)⟩
  show (List.replicate m (-1 : Int)).getD j (-1) = -1
  rw [List.getD_eq_getElem?_getD, List.getElem?_replicate, if_pos hj]; rfl
theorem ginv_all {m : Nat} {mt : Nat → Nat → Prop} {B : Nat → Int} {T : List Int → List Nat → Nat → List Int} {ord : List Nat} (sy : ∀ i j, mt i j → mt j i) (lt : ∀ k ∈ ord, k < m) (nd : ord.Nodup)
    (tk : ∀ i k, ord[i]? = some k → ∀ s, GInv m mt B s (ord.take i) → GTak m mt B s (ord.take i) k (T s.1 s.2 k)) : ∀ i, i ≤ ord.length → GInv m mt B (gfold m T (ord.take i)) (ord.take i)
  | 0, _ => by rw [List.take_zero]; exact ginv_nil m mt B T
  | i + 1, h => by
    have ih := ginv_all sy lt nd tk i (by omega)
    have hk : ord[i]? = some ord[i] := List.getElem?_eq_getElem (by omega)
    rw [List.take_add_one, hk]
    show GInv m mt B (gfold m T (ord.take i ++ [ord[i]])) (ord.take i ++ [ord[i]])
    rw [gfold_snoc]
    refine ginv_step sy ih (lt _ (List.getElem_mem _)) (fun z => ?_) (tk i _ hk _ ih)
    obtain ⟨j, hj, e⟩ := List.mem_take_iff_getElem.mp z
    have := (List.getElem_inj nd).mp e
    omega
/-- the order by keys -/
def ordK (key : Int → Int) (ns : List Nat) : List Nat := (LxS.byKey key (ns.map fun (j : Nat) => (j : Int))).map Int.toNat
theorem ordK_perm (key : Int → Int) (ns : List Nat) : (ordK key ns).Perm ns := by
  have p : (LxS.byKey key (ns.map fun (j : Nat) => (j : Int))).Perm (ns.map fun (j : Nat) => (j : Int)) := List.mergeSort_perm _ _
  have q := p.map Int.toNat
  rw [List.map_map] at q
  have e : ns.map (Int.toNat ∘ fun (j : Nat) => (j : Int)) = ns := by
    rw [show (Int.toNat ∘ fun (j : Nat) => (j : Int)) = id from funext fun j => by simp]
    exact List.map_id ns
  rw [e] at q
  exact q
theorem ordK_back (key : Int → Int) (ns : List Nat) : (ordK key ns).map (fun (j : Nat) => (j : Int)) = LxS.byKey key (ns.map fun (j : Nat) => (j : Int)) := by
  unfold ordK
  rw [List.map_map]
  have p : (LxS.byKey key (ns.map fun (j : Nat) => (j : Int))).Perm (ns.map fun (j : Nat) => (j : Int)) := List.mergeSort_perm _ _
  conv => rhs; rw [← List.map_id (LxS.byKey key (ns.map fun (j : Nat) => (j : Int)))]
  refine List.map_congr_left fun x hx => ?_
  obtain ⟨j, _, rfl⟩ := List.mem_map.mp (p.mem_iff.mp hx)
  simp
theorem ordK_srt (key : Int → Int) (ns : List Nat) : (ordK key ns).Pairwise fun (i j : Nat) => key (i : Int) ≤ key (j : Int) := by
  have s : (LxS.byKey key (ns.map fun (j : Nat) => (j : Int))).Pairwise fun x y => decide (key x ≤ key y) = true := List.pairwise_mergeSort (fun a b c h1 h2 => by simp only [decide_eq_true_eq] at *; omega) (fun a b => by simp only [Bool.or_eq_true, decide_eq_true_eq]; omega) _
  rw [← ordK_back, List.pairwise_map] at s
  exact s.imp fun h => of_decide_eq_true h
theorem srt_before {key : Int → Int} {ord : List Nat} (s : ord.Pairwise fun (i j : Nat) => key (i : Int) ≤ key (j : Int)) {i k : Nat} (hk : ord[i]? = some k) : ∀ j ∈ ord.take i, key (j : Int) ≤ key (k : Int) := fun j hj => by
  obtain ⟨a, ha, rfl⟩ := List.mem_take_iff_getElem.mp hj
  obtain ⟨hi, rfl⟩ := List.getElem?_eq_some_iff.mp hk
  exact List.pairwise_iff_getElem.mp s a i (by omega) hi (by omega)
theorem nd_le : ∀ {J L : List Nat}, J.Nodup → (∀ j ∈ J, j ∈ L) → J.length ≤ L.length
  | [], _, _, _ => Nat.zero_le _
  | a :: J, L, nd, h => by
    have nd' := List.nodup_cons.mp nd
    have hz := nd_le (J := J) (L := L.erase a) nd'.2 fun j hj => (List.mem_erase_of_ne (fun z : j = a => nd'.1 (by rw [← z]; exact hj))).mpr (h j (List.mem_cons_of_mem _ hj))
    have ha := h a List.mem_cons_self
    rw [List.length_erase_of_mem ha] at hz
    have := List.length_pos_of_mem ha
    rw [List.length_cons]
    omega
/-- unlike indices of items with a property: no more than such items -/
theorem idx_count {α : Type} {ws : List α} {d : α} {p : α → Bool} {J : List Nat} (nd : J.Nodup) (h : ∀ j ∈ J, j < ws.length ∧ p (ws.getD j d) = true) : J.length ≤ (ws.filter p).length := by
  have sub : ∀ j ∈ J, j ∈ (List.range ws.length).filter fun j => p (ws.getD j d) := fun j hj => List.mem_filter.mpr ⟨List.mem_range.mpr (h j hj).1, (h j hj).2⟩
  have le : J.length ≤ ((List.range ws.length).filter fun j => p (ws.getD j d)).length := nd_le nd sub
  have e : ((List.range ws.length).filter fun j => p (ws.getD j d)).length = (ws.filter p).length := by
    rw [← List.countP_eq_length_filter, ← List.countP_eq_length_filter]
    have : ws = (List.range ws.length).map fun j => ws.getD j d := by
      apply List.ext_getElem
      · simp
      · intro i h1 h2
        simp [List.getD_eq_getElem?_getD, List.getElem?_eq_getElem h1]
    conv => rhs; rw [this]
    rw [List.countP_map]; rfl
  omega
theorem fm_if {α β : Type} (p : α → Prop) [DecidablePred p] (f : α → β) : ∀ l : List α, (l.filterMap fun x => if p x then some (f x) else none) = (l.filter fun x => decide (p x)).map f
  | [] => rfl
  | x :: r => by
    rw [List.filterMap_cons, List.filter_cons]
    by_cases c : p x
    · rw [if_pos c, if_pos (decide_eq_true c), List.map_cons, ← fm_if p f r]
    · rw [if_neg c, if_neg (by simpa using c), ← fm_if p f r]
/-! ### a line's ways by their beginnings -/
def wD (ws : List (Int × Int)) (j : Nat) : Int × Int := ws.getD j (0, 0)
def loW (w : Int × Int) : Int := min w.1 w.2
def hiW (w : Int × Int) : Int := max w.1 w.2
def lnT (ws : List (Int × Int)) (hs : List Int) (ah : List Nat) (k : Nat) : List Int := ah.filterMap fun j => if loW (wD ws k) < hiW (wD ws j) then some (hs.getD j (-1)) else none
def lnK (ws : List (Int × Int)) (x : Int) : Int := loW (wD ws x.toNat)
def lnOrd (ws : List (Int × Int)) : List Nat := ordK (lnK ws) (List.range ws.length)
def lnS (ws : List (Int × Int)) (i : Nat) : List Int × List Nat := gfold ws.length (lnT ws) ((lnOrd ws).take i)
def lnF (ws : List (Int × Int)) : List Int := (lnS ws ws.length).1
def lnMt (ws : List (Int × Int)) (i j : Nat) : Prop := max (loW (wD ws i)) (loW (wD ws j)) < min (hiW (wD ws i)) (hiW (wD ws j))
theorem lnOrd_len (ws : List (Int × Int)) : (lnOrd ws).length = ws.length := by unfold lnOrd; rw [(ordK_perm _ _).length_eq, List.length_range]
theorem lnOrd_lt {ws : List (Int × Int)} {k : Nat} (h : k ∈ lnOrd ws) : k < ws.length := List.mem_range.mp ((ordK_perm _ _).mem_iff.mp h)
theorem lnOrd_nd (ws : List (Int × Int)) : (lnOrd ws).Nodup := (ordK_perm _ _).nodup_iff.mpr List.nodup_range
theorem lnOrd_all {ws : List (Int × Int)} {k : Nat} (h : k < ws.length) : k ∈ lnOrd ws := (ordK_perm _ _).mem_iff.mpr (List.mem_range.mpr h)
theorem wD_mem {ws : List (Int × Int)} {j : Nat} (h : j < ws.length) : wD ws j ∈ ws := by
  unfold wD
  rw [List.getD_eq_getElem?_getD, List.getElem?_eq_getElem h]
  exact List.getElem_mem h
theorem ln_inv {n : Int} {ws : List (Int × Int)} (ok : ∀ w ∈ ws, isWay (.line n) w.1 w.2) : ∀ i, i ≤ ws.length → GInv ws.length (lnMt ws) (fun k => (cnt (.line n) ws (loW (wD ws k)) : Int) - 1) (lnS ws i) ((lnOrd ws).take i) := by
  have all := ginv_all (m := ws.length) (mt := lnMt ws) (B := fun k => (cnt (.line n) ws (loW (wD ws k)) : Int) - 1) (T := lnT ws) (ord := lnOrd ws) (fun i j h => by unfold lnMt at *; omega) (fun k hk => lnOrd_lt hk) (lnOrd_nd ws) (fun i k hk s g => ?_)
  · exact fun i hi => all i (by rw [lnOrd_len]; exact hi)
  have km : k < ws.length := lnOrd_lt (List.mem_of_getElem? hk)
  have be := srt_before (ordK_srt (lnK ws) (List.range ws.length)) hk
  have dm : ∀ j ∈ (lnOrd ws).take i, j < ws.length := fun j hj => lnOrd_lt (List.mem_of_mem_take hj)
  have nk : k ∉ (lnOrd ws).take i := fun z => by
    obtain ⟨j, hj, e⟩ := List.mem_take_iff_getElem.mp z
    obtain ⟨h1, e2⟩ := List.getElem?_eq_some_iff.mp hk
    have := (List.getElem_inj (lnOrd_nd ws)).mp (e.trans e2.symm)
    omega
  refine ⟨fun j hj m => ?_, lnT ws s.1 s.2 k, fun x hx _ => hx, ?_, ?_⟩
  · unfold lnT
    rw [g.ah]
    refine List.mem_filterMap.mpr ⟨j, hj, ?_⟩
    unfold lnMt at m
    rw [if_pos (by omega)]
  all_goals
    have e : (lnT ws s.1 s.2 k).length = (((lnOrd ws).take i).filter fun j => decide (loW (wD ws k) < hiW (wD ws j))).length := by
      unfold lnT
      rw [g.ah, fm_if (fun j => loW (wD ws k) < hiW (wD ws j)) (fun j => s.1.getD j (-1)), List.length_map]
    have c := idx_count (ws := ws) (d := (0, 0)) (p := fun w => decide (OnTie (.line n) w.1 w.2 (loW (wD ws k)))) (J := k :: ((lnOrd ws).take i).filter fun j => decide (loW (wD ws k) < hiW (wD ws j)))
      (List.nodup_cons.mpr ⟨fun z => nk (List.mem_filter.mp z).1, ((lnOrd_nd ws).sublist (List.take_sublist _ _)).filter _⟩) (fun j hj => by
        rcases List.mem_cons.mp hj with rfl | hj
        · refine ⟨km, decide_eq_true ?_⟩
          have w := ok _ (wD_mem km)
          unfold isWay at w
          show min _ _ ≤ _ ∧ _ < max _ _
          unfold loW
          show min (wD ws j).1 (wD ws j).2 ≤ _ ∧ _ < max (wD ws j).1 (wD ws j).2
          omega
        · obtain ⟨h1, h2⟩ := List.mem_filter.mp hj
          have b := be j h1
          have h2 := of_decide_eq_true h2
          refine ⟨dm j h1, decide_eq_true ?_⟩
          show min (wD ws j).1 (wD ws j).2 ≤ _ ∧ _ < max (wD ws j).1 (wD ws j).2
          unfold lnK at b
          rw [Int.toNat_natCast, Int.toNat_natCast] at b
          unfold loW hiW at *
          exact ⟨b, h2⟩)
    rw [List.length_cons, ← e] at c
  · show _ ≤ ((ws.filter _).length : Int) - 1
    omega
  · have := List.length_filter_le (fun w : Int × Int => decide (OnTie (.line n) w.1 w.2 (loW (wD ws k)))) ws
    omega
/-- the hues told -/
structure LnOk (n : Int) (ws : List (Int × Int)) (hs : List Int) : Prop where
  len : hs.length = ws.length
  rg : ∀ j, j < ws.length → 0 ≤ hs.getD j (-1) ∧ hs.getD j (-1) < (cnt (.line n) ws (loW (wD ws j)) : Int)
  ap : ∀ i j, i < ws.length → j < ws.length → i ≠ j → lnMt ws i j → hs.getD i (-1) ≠ hs.getD j (-1)
theorem lnF_ok {n : Int} {ws : List (Int × Int)} (ok : ∀ w ∈ ws, isWay (.line n) w.1 w.2) : LnOk n ws (lnF ws) := by
  have g := ln_inv ok ws.length (Nat.le_refl _)
  rw [List.take_of_length_le (by rw [lnOrd_len]; exact Nat.le_refl _)] at g
  exact ⟨g.len, fun j hj => by have := g.rg j (lnOrd_all hj); exact ⟨this.1, by have := this.2; unfold lnF; omega⟩, fun i j hi hj ij m => g.ap i (lnOrd_all hi) j (lnOrd_all hj) ij m⟩
theorem lnS_next {ws : List (Int × Int)} {i k : Nat} (hk : (lnOrd ws)[i]? = some k) : lnS ws (i + 1) = gstep ws.length (lnT ws) (lnS ws i) k := by
  unfold lnS
  rw [List.take_add_one, hk]
  exact gfold_snoc _ _ _ _
theorem lnT_len (ws : List (Int × Int)) (hs : List Int) (ah : List Nat) (k : Nat) : (lnT ws hs ah k).length ≤ ah.length := List.length_filterMap_le _ _
theorem fm_ints {α : Type} (p : α → Prop) [DecidablePred p] (f : α → Int) (l : List α) : (l.filterMap fun x => if p x then some (V.int (f x)) else none) = (l.filterMap fun x => if p x then some (f x) else none).map V.int := by
  rw [List.map_filterMap]
  congr 1
  funext x
  split <;> rfl
theorem ffree_V (m : Nat) (T : List Int) : ((List.range m).filterMap fun j => if ((j : Nat) : Int) ∈ T then none else some (V.int ((j : Nat) : Int))) = (ffree m T).map V.int := by
  unfold ffree
  rw [List.map_filterMap]
  congr 1
  funext x
  split <;> rfl
/-! ### hues on a ring: first the ways over the cut, then the others as they begin behind it -/
def onT (n : Int) (ws : List (Int × Int)) (t : Int) (k : Nat) : Prop := OnTie (.ring n) (wD ws k).1 (wD ws k).2 t
instance (n : Int) (ws : List (Int × Int)) (t : Int) (k : Nat) : Decidable (onT n ws t k) := by unfold onT; infer_instance
def rgO (n : Int) (ws : List (Int × Int)) (c : Int) : List Nat := (List.range ws.length).filter fun k => decide (onT n ws c k)
def rgR (n : Int) (ws : List (Int × Int)) (c : Int) : List Nat := (List.range ws.length).filter fun k => !decide (onT n ws c k)
def rgK (n : Int) (ws : List (Int × Int)) (c : Int) (x : Int) : Int := ((wD ws x.toNat).1 - c) % n
def rgOrd (n : Int) (ws : List (Int × Int)) (c : Int) : List Nat := rgO n ws c ++ ordK (rgK n ws c) (rgR n ws c)
def rgMt (n : Int) (ws : List (Int × Int)) (i j : Nat) : Prop := meetB (.ring n) (wD ws i) (wD ws j) = true
instance (n : Int) (ws : List (Int × Int)) (i j : Nat) : Decidable (rgMt n ws i j) := by unfold rgMt; infer_instance
def rgT (n : Int) (ws : List (Int × Int)) (hs : List Int) (_ : List Nat) (k : Nat) : List Int := (List.range ws.length).filterMap fun j => if meetB (.ring n) (wD ws k) (wD ws j) = true then some (hs.getD j (-1)) else none
def rgS (n : Int) (ws : List (Int × Int)) (c : Int) (i : Nat) : List Int × List Nat := gfold ws.length (rgT n ws) ((rgOrd n ws c).take i)
def rgF (n : Int) (ws : List (Int × Int)) (c : Int) : List Int := (rgS n ws c ws.length).1
theorem rgOrd_perm (n : Int) (ws : List (Int × Int)) (c : Int) : (rgOrd n ws c).Perm (List.range ws.length) := by
  have a : (rgOrd n ws c).Perm (rgO n ws c ++ rgR n ws c) := (List.Perm.refl _).append (ordK_perm _ _)
  exact a.trans (List.filter_append_perm _ _)
theorem rgOrd_len (n : Int) (ws : List (Int × Int)) (c : Int) : (rgOrd n ws c).length = ws.length := by rw [(rgOrd_perm n ws c).length_eq, List.length_range]
theorem rgOrd_lt {n : Int} {ws : List (Int × Int)} {c : Int} {k : Nat} (h : k ∈ rgOrd n ws c) : k < ws.length := List.mem_range.mp ((rgOrd_perm n ws c).mem_iff.mp h)
theorem rgOrd_nd (n : Int) (ws : List (Int × Int)) (c : Int) : (rgOrd n ws c).Nodup := (rgOrd_perm n ws c).nodup_iff.mpr List.nodup_range
theorem rgOrd_all {n : Int} {ws : List (Int × Int)} {c : Int} {k : Nat} (h : k < ws.length) : k ∈ rgOrd n ws c := (rgOrd_perm n ws c).mem_iff.mpr (List.mem_range.mpr h)
theorem take_not {l : List Nat} (nd : l.Nodup) {i k : Nat} (hk : l[i]? = some k) : k ∉ l.take i := fun z => by
  obtain ⟨j, hj, e⟩ := List.mem_take_iff_getElem.mp z
  obtain ⟨h1, e2⟩ := List.getElem?_eq_some_iff.mp hk
  have := (List.getElem_inj nd).mp (e.trans e2.symm)
  omega
/-- unlike ways on one tie: no more than its load -/
theorem on_count {n : Int} {ws : List (Int × Int)} {t : Int} {J : List Nat} (nd : J.Nodup) (h : ∀ j ∈ J, j < ws.length ∧ onT n ws t j) : J.length ≤ cnt (.ring n) ws t :=
  idx_count (d := (0, 0)) (p := fun w => decide (OnTie (.ring n) w.1 w.2 t)) nd fun j hj => ⟨(h j hj).1, decide_eq_true (h j hj).2⟩
theorem rg_off {n t : Int} {w : Int × Int} (t0 : 0 ≤ t) (t1 : t < n) (w0 : 0 ≤ w.1) (w1 : w.1 < n) : (w.1 - t) % n = up n t w.1 := by
  unfold up
  split
  · exact Int.emod_eq_of_lt (by omega) (by omega)
  · rw [← Int.add_emod_right]
    exact Int.emod_eq_of_lt (by omega) (by omega)
/-- the cut: a tie with the least load l, L the greatest; a way's first one where all bear as much -/
structure CutOk (n : Int) (ws : List (Int × Int)) (c : Int) (L l : Nat) : Prop where
  c0 : 0 ≤ c
  c1 : c < n
  le : ∀ t, cnt (.ring n) ws t ≤ L
  at_ : cnt (.ring n) ws c = l
  lL : l ≤ L
  fst : l = L → ∃ z, z < ws.length ∧ (wD ws z).1 = c
def rgB (L l : Nat) : Int := if l < L then (L : Int) + l - 1 else 2 * (L : Int) - 2
theorem rg_tak {n : Int} {ws : List (Int × Int)} {c : Int} {L l : Nat} (okn : (Net.ring n).ok) (ok : ∀ w ∈ ws, isWay (.ring n) w.1 w.2) (cu : CutOk n ws c L l) {i k : Nat} (hk : (rgOrd n ws c)[i]? = some k) {s : List Int × List Nat} (g : GInv ws.length (rgMt n ws) (fun _ => rgB L l) s ((rgOrd n ws c).take i)) :
    GTak ws.length (rgMt n ws) (fun _ => rgB L l) s ((rgOrd n ws c).take i) k (rgT n ws s.1 s.2 k) := by
  have wy : ∀ {j : Nat}, j < ws.length → isWay (.ring n) (wD ws j).1 (wD ws j).2 := fun hj => ok _ (wD_mem hj)
  have km : k < ws.length := rgOrd_lt (List.mem_of_getElem? hk)
  have dm : ∀ j ∈ (rgOrd n ws c).take i, j < ws.length := fun j hj => rgOrd_lt (List.mem_of_mem_take hj)
  have nk := take_not (rgOrd_nd n ws c) hk
  have ndT : ((rgOrd n ws c).take i).Nodup := (rgOrd_nd n ws c).sublist (List.take_sublist _ _)
  refine ⟨fun j hj m => ?_, (((rgOrd n ws c).take i).filter fun j => decide (rgMt n ws k j)).map fun j => s.1.getD j (-1), fun x hx x0 => ?_, ?_, ?_⟩
  · refine List.mem_filterMap.mpr ⟨j, List.mem_range.mpr (dm j hj), ?_⟩
    exact if_pos (show meetB (.ring n) (wD ws k) (wD ws j) = true from m)
  · obtain ⟨j, hj, e⟩ := List.mem_filterMap.mp hx
    split at e
    · rename_i m
      cases e
      by_cases d : j ∈ (rgOrd n ws c).take i
      · exact List.mem_map.mpr ⟨j, List.mem_filter.mpr ⟨d, decide_eq_true m⟩, rfl⟩
      · rw [g.not j (List.mem_range.mp hj) d] at x0
        omega
    · cases e
  · rw [List.length_map]
    have hO : ∀ j ∈ rgO n ws c, j < ws.length ∧ onT n ws c j := fun j hj => ⟨List.mem_range.mp (List.mem_filter.mp hj).1, of_decide_eq_true (List.mem_filter.mp hj).2⟩
    have ndO : (rgO n ws c).Nodup := List.nodup_range.filter _
    have cO : (rgO n ws c).length ≤ l := by rw [← cu.at_]; exact on_count ndO hO
    by_cases over : i < (rgO n ws c).length
    · have e : (rgOrd n ws c).take i = (rgO n ws c).take i := by unfold rgOrd; rw [List.take_append_of_le_length (by omega)]
      have a := List.length_filter_le (fun j => decide (rgMt n ws k j)) ((rgOrd n ws c).take i)
      have lt : ((rgOrd n ws c).take i).length ≤ i := by rw [List.length_take]; omega
      have := cu.lL
      unfold rgB
      split <;> omega
    · have e : (rgOrd n ws c).take i = rgO n ws c ++ (ordK (rgK n ws c) (rgR n ws c)).take (i - (rgO n ws c).length) := by
        unfold rgOrd
        rw [List.take_append, List.take_of_length_le (by omega)]
      have hk' : (ordK (rgK n ws c) (rgR n ws c))[i - (rgO n ws c).length]? = some k := by
        unfold rgOrd at hk
        rwa [List.getElem?_append_right (by omega)] at hk
      have kR : k ∈ rgR n ws c := (ordK_perm _ _).mem_iff.mp (List.mem_of_getElem? hk')
      have be := srt_before (ordK_srt (rgK n ws c) (rgR n ws c)) hk'
      rw [e] at nk ndT dm ⊢
      have ndP := (List.nodup_append.mp ndT).2.1
      have noC : ∀ {j : Nat}, j ∈ rgR n ws c → ¬ onT n ws c j := fun hj => by simpa using (List.mem_filter.mp hj).2
      have pR : ∀ j ∈ (ordK (rgK n ws c) (rgR n ws c)).take (i - (rgO n ws c).length), j ∈ rgR n ws c := fun j hj => (ordK_perm _ _).mem_iff.mp (List.mem_of_mem_take hj)
      generalize (ordK (rgK n ws c) (rgR n ws c)).take (i - (rgO n ws c).length) = pre at *
      obtain ⟨k1, k2, k3, k4, k5⟩ := wy km
      have k4 : (wD ws k).1 < n := k4
      have k5 : (wD ws k).2 < n := k5
      obtain ⟨A1, lin⟩ := off_lin cu.c0 cu.c1 (wy km) (noC kR)
      have onK : onT n ws (wD ws k).1 k := ⟨k2, k4, by rw [up_self]; exact (ring_far k2 k4 k3 k5 k1).2.2.2.1⟩
      -- what comes ahead and meets k lies on its first tie
      have key : ∀ j ∈ pre, rgMt n ws k j → onT n ws (wD ws k).1 j := fun j hj m => by
        have jm := dm j (List.mem_append_right _ hj)
        obtain ⟨x, xk, xj⟩ := (meet_iff okn (wy km) (wy jm)).mp m
        obtain ⟨B1, lj⟩ := off_lin cu.c0 cu.c1 (wy jm) (noC (pR j hj))
        have a1 := (lin x xk.1 xk.2.1).mp xk
        have a2 := (lj x xj.1 xj.2.1).mp xj
        have b := be j hj
        obtain ⟨j1, j2, j3, j4, j5⟩ := wy jm
        have j4 : (wD ws j).1 < n := j4
        unfold rgK at b
        rw [Int.toNat_natCast, Int.toNat_natCast, rg_off cu.c0 cu.c1 j2 j4, rg_off cu.c0 cu.c1 k2 k4] at b
        exact (lj (wD ws k).1 k2 k4).mpr ⟨b, by omega⟩
      have nkP : k ∉ pre := fun z => nk (List.mem_append_right _ z)
      have disj : ∀ j ∈ rgO n ws c, j ∉ pre := fun j hj z => (noC (pR j z)) (hO j hj).2
      rw [List.filter_append, List.length_append]
      have c1 : (pre.filter fun j => decide (rgMt n ws k j)).length + 1 ≤ L := by
        have := on_count (n := n) (ws := ws) (t := (wD ws k).1) (J := k :: pre.filter fun j => decide (rgMt n ws k j)) (List.nodup_cons.mpr ⟨fun z => nkP (List.mem_filter.mp z).1, ndP.filter _⟩) (fun j hj => by
          rcases List.mem_cons.mp hj with rfl | hj
          · exact ⟨km, onK⟩
          · obtain ⟨h1, h2⟩ := List.mem_filter.mp hj
            exact ⟨dm j (List.mem_append_right _ h1), key j h1 (of_decide_eq_true h2)⟩)
        rw [List.length_cons] at this
        exact Nat.le_trans this (cu.le _)
      have c2 := List.length_filter_le (fun j => decide (rgMt n ws k j)) (rgO n ws c)
      unfold rgB
      split
      · omega
      · have eq : l = L := by have := cu.lL; omega
        obtain ⟨z, zm, ez⟩ := cu.fst eq
        obtain ⟨z1, z2, z3, z4, z5⟩ := wy zm
        have z4 : (wD ws z).1 < n := z4
        have z5 : (wD ws z).2 < n := z5
        have zc : onT n ws c z := ⟨cu.c0, cu.c1, by rw [← ez, up_self]; exact (ring_far z2 z4 z3 z5 z1).2.2.2.1⟩
        have zO : z ∈ rgO n ws c := List.mem_filter.mpr ⟨List.mem_range.mpr zm, decide_eq_true zc⟩
        by_cases mz : rgMt n ws k z
        · -- it lies on the first tie, too
          have onZ : onT n ws (wD ws k).1 z := by
            obtain ⟨x, xk, xz⟩ := (meet_iff okn (wy km) (wy zm)).mp mz
            have a1 := (lin x xk.1 xk.2.1).mp xk
            have a2 : up n (wD ws z).1 x < up n (wD ws z).1 (wD ws z).2 := xz.2.2
            rw [ez] at a2
            refine ⟨k2, k4, ?_⟩
            rw [ez]
            omega
          have := on_count (n := n) (ws := ws) (t := (wD ws k).1) (J := z :: k :: pre.filter fun j => decide (rgMt n ws k j)) (List.nodup_cons.mpr ⟨fun y => by
              rcases List.mem_cons.mp y with y | y
              · exact (noC kR) (y ▸ zc)
              · exact disj z zO (List.mem_filter.mp y).1, List.nodup_cons.mpr ⟨fun z => nkP (List.mem_filter.mp z).1, ndP.filter _⟩⟩) (fun j hj => by
            rcases List.mem_cons.mp hj with rfl | hj
            · exact ⟨zm, onZ⟩
            · rcases List.mem_cons.mp hj with rfl | hj
              · exact ⟨km, onK⟩
              · obtain ⟨h1, h2⟩ := List.mem_filter.mp hj
                exact ⟨dm j (List.mem_append_right _ h1), key j h1 (of_decide_eq_true h2)⟩)
          rw [List.length_cons, List.length_cons] at this
          have := Nat.le_trans this (cu.le _)
          omega
        · have c3 : ((rgO n ws c).filter fun j => decide (rgMt n ws k j)).length + 1 ≤ (rgO n ws c).length := by
            have := nd_le (J := z :: (rgO n ws c).filter fun j => decide (rgMt n ws k j)) (L := rgO n ws c) (List.nodup_cons.mpr ⟨fun y => mz (of_decide_eq_true (List.mem_filter.mp y).2), ndO.filter _⟩) (fun j hj => by
              rcases List.mem_cons.mp hj with rfl | hj
              · exact zO
              · exact (List.mem_filter.mp hj).1)
            rwa [List.length_cons] at this
          omega
  · rw [List.length_map]
    have := nd_le (J := k :: (rgOrd n ws c).take i) (L := List.range ws.length) (List.nodup_cons.mpr ⟨nk, ndT⟩) (fun j hj => by
      rcases List.mem_cons.mp hj with rfl | hj
      · exact List.mem_range.mpr km
      · exact List.mem_range.mpr (dm j hj))
    rw [List.length_cons, List.length_range] at this
    have := List.length_filter_le (fun j => decide (rgMt n ws k j)) ((rgOrd n ws c).take i)
    omega
theorem rg_inv {n : Int} {ws : List (Int × Int)} {c : Int} {L l : Nat} (okn : (Net.ring n).ok) (ok : ∀ w ∈ ws, isWay (.ring n) w.1 w.2) (cu : CutOk n ws c L l) : ∀ i, i ≤ ws.length → GInv ws.length (rgMt n ws) (fun _ => rgB L l) (rgS n ws c i) ((rgOrd n ws c).take i) := by
  have all := ginv_all (m := ws.length) (mt := rgMt n ws) (B := fun _ => rgB L l) (T := rgT n ws) (ord := rgOrd n ws c) (fun i j h => by unfold rgMt meetB at *; rw [common_comm]; exact h) (fun k hk => rgOrd_lt hk) (rgOrd_nd n ws c) (fun i k hk s g => rg_tak okn ok cu hk g)
  exact fun i hi => all i (by rw [rgOrd_len]; exact hi)
structure RgOk (n : Int) (ws : List (Int × Int)) (hs : List Int) (B : Int) : Prop where
  len : hs.length = ws.length
  rg : ∀ j, j < ws.length → 0 ≤ hs.getD j (-1) ∧ hs.getD j (-1) ≤ B
  ap : ∀ i j, i < ws.length → j < ws.length → i ≠ j → meetB (.ring n) (wD ws i) (wD ws j) = true → hs.getD i (-1) ≠ hs.getD j (-1)
theorem rgF_ok {n : Int} {ws : List (Int × Int)} {c : Int} {L l : Nat} (okn : (Net.ring n).ok) (ok : ∀ w ∈ ws, isWay (.ring n) w.1 w.2) (cu : CutOk n ws c L l) : RgOk n ws (rgF n ws c) (rgB L l) := by
  have g := rg_inv okn ok cu ws.length (Nat.le_refl _)
  rw [List.take_of_length_le (by rw [rgOrd_len]; exact Nat.le_refl _)] at g
  exact ⟨g.len, fun j hj => g.rg j (rgOrd_all hj), fun i j hi hj ij m => g.ap i (rgOrd_all hi) j (rgOrd_all hj) ij m⟩
theorem rgS_next {n : Int} {ws : List (Int × Int)} {c : Int} {i k : Nat} (hk : (rgOrd n ws c)[i]? = some k) : rgS n ws c (i + 1) = gstep ws.length (rgT n ws) (rgS n ws c i) k := by
  unfold rgS
  rw [List.take_add_one, hk]
  exact gfold_snoc _ _ _ _
theorem k_indexI {K : PySem.W.Frag} {H : Hp} {Q : VK} {p : Addr} {ns : List Int} {x : Int} (hs : SqL K H p (ns.map V.int)) (hx : x ∈ ns) (h : Q (.int (ns.idxOf x : Nat)) H) : rIndex K (.ref p) [.int x] H Q := by
  have hl : ns.idxOf x < ns.length := List.idxOf_lt_length_of_mem hx
  have hg : ns[ns.idxOf x]? = some x := by rw [List.getElem?_eq_getElem hl, List.getElem_idxOf hl]
  refine k_indexV (z := .int x) hs rfl (flat_ints ns) (by rw [List.getElem?_map, hg]; rfl) (by show (x == x) = true; simp) (fun m z' hm hz => ?_) h
  rw [List.getElem?_map] at hz
  obtain ⟨y, hy, rfl⟩ := Option.map_eq_some_iff.mp hz
  show (y == x) = false
  have hml : m < ns.length := by omega
  have e : y = ns[m] := by rw [List.getElem?_eq_getElem hml] at hy; exact (Option.some.inj hy).symm
  rw [e]
  have := List.not_of_lt_findIdx (p := (· == x)) (xs := ns) hm
  simpa using this
/-- a comprehension over a list, each turn gives a new thing of which F tells the data -/
theorem lc_dp {σ : L2.St} {vs : List Nat} {g : TG} {te : TE} {H1 : Hp} {QD : Addr → Hp → Prop} {α : Type} {a : Addr} {xs : List V} (S0 : List Addr) (hS : ∀ b ∈ S0, H1 b ≠ none) (hs : SqL K H1 a xs) (ps : List α) (hl : xs.length = ps.length) (hz : ps.length ≤ 50000) (F : α → PyData)
    (step : ∀ (i : Nat) x p H', xs[i]? = some x → ps[i]? = some p → Same H1 H' → ∀ (R : V → Hp → Prop), (∀ y H'', Same H' H'' → (∀ S : List Addr, (∀ b ∈ S, H' b ≠ none) → Dp K (hid S H'') y (F p)) → R y H'') →
      g x (wipe σ vs) H' fun σ2 H2 => wipe σ2 vs = wipe σ vs ∧ te σ2 H2 R)
    (h : ∀ D ys H', H1 D = none → Same H1 H' → H' D = some (.lst ys) → DpAll K (hid (D :: S0) H') ys (ps.map F) → QD D H') (hg : ∀ x σ' H (q q' : L2.St → Hp → Prop), (∀ s H, q s H → q' s H) → g x σ' H q → g x σ' H q') :
    ∃ a', V.ref a = .ref a' ∧ (∃ xs, SqL K H1 a' xs) ∧ ∀ D, H1 D = none → ∃ W : Nat → Nat → Hp → Prop, (∃ m, W 0 m (upd H1 D (.lst []))) ∧ ∀ i m H, W i m H →
      ((Itl K a').stop i H ∧ QD D H) ∨ ((Itl K a').go i H ∧ ∃ Nx : Hp → Prop, (∀ H', Nx H' → ∃ m', m' < m ∧ W (i + 1) m' H') ∧ ∀ x H', (Itl K a').yld i H x H' → g x (wipe σ vs) H' fun σ2 H2 => wipe σ2 vs = wipe σ vs ∧ tYes σ2 H2 fun b H3 =>
        if b = true then te σ2 H3 fun y H4 => ∃ acc, H4 D = some (.lst acc) ∧ acc.length < sizeLine ∧ Nx (upd H4 D (.lst (acc ++ [y]))) else Nx H3) := by
  refine ⟨a, rfl, ⟨xs, hs⟩, fun D nD => lc_list (xs := xs) (fun i H => Same H1 H ∧ ∃ ys, H D = some (.lst ys) ∧ ys.length = i ∧ DpAll K (hid (D :: S0) H) ys ((ps.take i).map F)) ⟨same_new nD, [], upd_same, rfl, .nil⟩ (fun i H _ e => e.1.seq hs) ?_ ?_⟩
  · rintro i x H hx ⟨sm, ys, hD, hly, hys⟩
    have hi : i < xs.length := (List.getElem?_eq_some_iff.mp hx).1
    obtain ⟨p, hp⟩ : ∃ p, ps[i]? = some p := ⟨ps[i]'(by omega), List.getElem?_eq_getElem (by omega)⟩
    refine hg _ _ _ _ _ (fun s2 H2 hh => ⟨hh.1, k_yes (iteT hh.2)⟩) (step i x p H hx hp sm _ (fun y H'' s2 dy => ⟨ys, s2 _ _ hD, szl (by omega), same_mut (sm.trans s2) nD, ys ++ [y], upd_same, by simp [hly], ?_⟩))
    rw [hid_upd (by simp), List.take_add_one, hp, List.map_append]
    refine dpa_app (dpa_same (hid_mono s2) hys) (.cons (dy _ fun b hb => ?_) .nil)
    rcases List.mem_cons.mp hb with e | hb
    · rw [e, hD]; exact fun z => nomatch z
    · intro z
      exact hS b hb (sm.free z)
  · rintro H ⟨sm, ys, hD, hly, hys⟩
    rw [hl, List.take_length] at hys
    exact h D ys H nD sm hD hys


theorem meet_fmC (xs ys : List Int) : 0 < (xs.filterMap fun t => if t ∈ ys then some (V.int t) else none).length ↔ ∃ t, t ∈ xs ∧ t ∈ ys := by
  rw [List.length_pos_iff_exists_mem]
  constructor
  · rintro ⟨v, hv⟩
    obtain ⟨t, h1, h2⟩ := List.mem_filterMap.mp hv
    by_cases c : t ∈ ys
    · exact ⟨t, h1, c⟩
    · rw [if_neg c] at h2; cases h2
  · rintro ⟨t, h1, h2⟩
    exact ⟨.int t, List.mem_filterMap.mpr ⟨t, h1, by rw [if_pos h2]⟩⟩
def pr_have_common (K : PySem.W.Frag) (v0 v1 : V) (H : Hp) (Q : VK) (_ : XK) : Prop := ∃ (a b : Addr) (xs ys : List Int), v0 = .ref a ∧ v1 = .ref b ∧ SqL K H a (xs.map V.int) ∧ SqL K H b (ys.map V.int) ∧ xs.length ≤ 1000 ∧ ∀ H', Same H H' → Q (.bl (commonB xs ys)) H'
def t_have_common (K : PySem.W.Frag) : TS :=
  (tRet (tOp xGt (tCB (rLenX K) (tCons (tLc (iList K (tVar 0)) (gName 2) (tTest (tOp (rIn K false) (tVar 2) (tVar 1))) (tVar 2) [2]) tNil)) (tC (.int 0))))
theorem pure_have_common {v0 v1 : V} {H : Hp} {Q : VK} {E : XK} (h : pr_have_common K v0 v1 H Q E) : t_have_common K ⟨fun _ H' => Q .non H', Q, fun _ _ => False, fun _ _ => False⟩ [some v0, some v1, none] H := by
  obtain ⟨a, b, xs, ys, rfl, rfl, ha, hb, hz, q⟩ := h
  unfold t_have_common
  wtm_at "s"
  refine lc_pure ha xs (by simp) (by omega) (fun t => if t ∈ ys then some (V.int t) else none) ?_ (fun D H1 nD s1 eD => ?_)
  · intro k z p H' hz hp sm R R0 h1 h2
    rw [List.getElem?_map, hp] at hz
    cases hz
    have hb' := sm.seq hb
    wtm_at "s"
    refine k_it (fun w => ?_) (fun w => ?_)
    · wtm_at "s"
      exact h1 _ (by rw [if_pos w])
    · exact h2 (by rw [if_neg w])
  · wtm_at "s"
    have e : decide ((0 : Int) < ((xs.filterMap fun t => if t ∈ ys then some (V.int t) else none).length : Nat)) = commonB xs ys := by
      cases hc : commonB xs ys with
      | true => exact decide_eq_true (by have := (meet_fmC xs ys).mpr (common_iff.mp hc); omega)
      | false => exact decide_eq_false fun z => by
                   have := common_iff.mpr ((meet_fmC xs ys).mp (by omega))
                   rw [hc] at this; cases this
    rw [e]
    exact q H1 s1
abbrev sp_have_common (K : PySem.W.Frag) : Sp := fun vs H Q E => ∃ v0 v1, vs = [v0, v1] ∧ pr_have_common K v0 v1 H Q E
theorem ok_have_common (T : Txt K mg A) : FnOk P w K mg base CX0 1 A.a_have_common A.d_have_common ["one", "other"] (sp_have_common K) := by
  refine T.F_have_common.ok sc_have_common (fun vs H Q E h => by obtain ⟨v0, v1, rfl, _⟩ := h; rfl) (fun cdv A0 outer s H vs Q E hr h => ?_)
  obtain ⟨v0, v1, rfl, h⟩ := h
  exact ⟨t_have_common K, (pss_one (ps_ret (pe_cmpR op_gt (pe_callB q_len (by rfl) T.z_len (by decide +kernel) (pa_cons (pe_lc (own := [("thing", 2)]) (by rfl) sc_have_common.nd (pi_list (pv 0)) (blkOk_by (own := [("thing", 2)]) (N := ["one", "other", "thing"]) (sc := defScope s_have_common) (by decide +kernel)) (fun _ _ _ _ _ => (pg_name (i := 2) sc_have_common.nd rfl (Or.inl rfl))) (fun _ _ _ _ _ => (pts_one (pt_cmpR op_in_seq (pv 2) (pv 1) (by rfl)))) (fun _ _ _ _ _ => (pv 2))) pa_nil)) pe_int (nomark _)))), pure_have_common h⟩
/-- where a ring is cut -/
def CutAt (n : Int) (ws : List (Int × Int)) (c mn mx : Int) : Prop := mn ∈ loadsOf (.ring n) ws ∧ (∀ y ∈ loadsOf (.ring n) ws, mn ≤ y) ∧ mx ∈ loadsOf (.ring n) ws ∧ (∀ y ∈ loadsOf (.ring n) ws, y ≤ mx) ∧ c = if mn < mx then (((loadsOf (.ring n) ws).idxOf mn : Nat) : Int) else (wD ws 0).1
theorem CutAt.one {n : Int} {ws : List (Int × Int)} {c mn mx c' mn' mx' : Int} (a : CutAt n ws c mn mx) (b : CutAt n ws c' mn' mx') : c = c' ∧ mn = mn' ∧ mx = mx' := by
  obtain ⟨a1, a2, a3, a4, a5⟩ := a
  obtain ⟨b1, b2, b3, b4, b5⟩ := b
  have e1 : mn = mn' := by have := a2 _ b1; have := b2 _ a1; omega
  have e2 : mx = mx' := by have := a4 _ b3; have := b4 _ a3; omega
  exact ⟨by rw [a5, b5, e1, e2], e1, e2⟩
theorem ring_out {n : Int} {W : List (Int × Int)} {t : Int} (h : ¬ (0 ≤ t ∧ t < n)) : cnt (.ring n) W t = 0 := by
  unfold cnt
  rw [List.length_eq_zero_iff, List.filter_eq_nil_iff]
  intro w _ z
  have z := of_decide_eq_true z
  exact h ⟨z.1, z.2.1⟩
theorem CutAt.ok {n : Int} {ws : List (Int × Int)} {c mn mx : Int} (ne : ws ≠ []) (wok : ∀ w ∈ ws, isWay (.ring n) w.1 w.2) (a : CutAt n ws c mn mx) : CutOk n ws c mx.toNat mn.toNat ∧ 0 ≤ mn ∧ 0 ≤ mx := by
  obtain ⟨a1, a2, a3, a4, a5⟩ := a
  have mem : ∀ t : Int, 0 ≤ t → t < n → ((cnt (.ring n) ws t : Nat) : Int) ∈ loadsOf (.ring n) ws := fun t t0 t1 => List.mem_map.mpr ⟨t.toNat, List.mem_range.mpr (by show t.toNat < n.toNat; omega), by rw [show ((t.toNat : Nat) : Int) = t by omega]⟩
  have nn : ∀ y ∈ loadsOf (.ring n) ws, 0 ≤ y := fun y hy => by
    obtain ⟨t, _, rfl⟩ := List.mem_map.mp hy
    omega
  have m0 := nn _ a1
  have x0 := nn _ a3
  have le : mn ≤ mx := a4 _ a1
  have top : ∀ t, cnt (.ring n) ws t ≤ mx.toNat := fun t => by
    by_cases h : 0 ≤ t ∧ t < n
    · have := a4 _ (mem t h.1 h.2); omega
    · rw [ring_out h]; omega
  have w0 : 0 < ws.length := List.length_pos_iff.mpr ne
  obtain ⟨w1, w2, w3, w4, w5⟩ := wok _ (wD_mem w0)
  have w4 : (wD ws 0).1 < n := w4
  refine ⟨?_, m0, x0⟩
  by_cases h : mn < mx
  · rw [if_pos h] at a5
    have i0 := List.idxOf_lt_length_of_mem a1
    have i1 : (loadsOf (.ring n) ws)[(loadsOf (.ring n) ws).idxOf mn] = mn := List.getElem_idxOf i0
    have ln : (loadsOf (.ring n) ws).length = n.toNat := by unfold loadsOf; rw [List.length_map, List.length_range]; rfl
    have ec : ((cnt (.ring n) ws c : Nat) : Int) = mn := by
      rw [a5]
      conv => rhs; rw [← i1]
      simp only [loadsOf, List.getElem_map, List.getElem_range]
    rw [ln] at i0
    exact ⟨by rw [a5]; omega, by rw [a5]; omega, top, by omega, by omega, fun e => by omega⟩
  · rw [if_neg h] at a5
    have hc := mem c (by omega) (by omega)
    have b1 := a2 _ hc
    have b2 := a4 _ hc
    exact ⟨by omega, by omega, top, by omega, by omega, fun _ => ⟨0, w0, a5.symm⟩⟩
def pr_cut_at (K : PySem.W.Frag) (v0 v1 : V) (H : Hp) (Q : VK) (_ : XK) : Prop := ∃ (n : Int) (ws : List (Int × Int)) (e : Addr), Dp K H v0 (dPairs ws) ∧ v1 = .ref e ∧ SqL K H e ((loadsOf (.ring n) ws).map V.int) ∧ (Net.ring n).ok ∧ ws ≠ [] ∧
  ∀ c mn mx, CutAt n ws c mn mx → Q (.int c) H
def t_cut_at (K : PySem.W.Frag) : TS :=
  (tSeq (tIfS (tTest (tOp xLt (tCB (rMin K) (tCons (tVar 1) tNil)) (tCB (rMax K) (tCons (tVar 1) tNil)))) (tRet (tBM K "list" (rIndex K) (tVar 1) (tCons (tCB (rMin K) (tCons (tVar 1) tNil)) tNil))) tNext)
    (tRet (tOp (rIxT K) (tOp (rIxL K) (tVar 0) (tC (.int 0))) (tC (.int 0)))))
theorem pure_cut_at {v0 v1 : V} {H : Hp} {Q : VK} {E : XK} (h : pr_cut_at K v0 v1 H Q E) : t_cut_at K ⟨fun _ H' => Q .non H', Q, fun _ _ => False, fun _ _ => False⟩ [some v0, some v1] H := by
  obtain ⟨n, ws, e, d0, rfl, he, ok, ne, q⟩ := h
  obtain ⟨b, xs, rfl, hb, dxs⟩ := dp_list d0
  have lpos : 0 < (loadsOf (.ring n) ws).length := by
    unfold loadsOf
    rw [List.length_map, List.length_range]
    obtain ⟨o1, o2⟩ := (show 3 ≤ n ∧ n ≤ 60 from ok)
    show 0 < n.toNat
    omega
  unfold t_cut_at
  wtm_at "s"
  refine k_min he lpos (fun mn a1 a2 => ?_)
  wtm_at "s"
  refine k_max he lpos (fun mx a3 a4 => ?_)
  wtm_at "s"
  refine k_it (fun c => ?_) (fun c => ?_)
  · wtm_at "s"
    refine k_tyL he ?_
    wtm_at "s"
    refine k_min he lpos (fun mn' b1 b2 => ?_)
    obtain rfl : mn' = mn := by have := a2 _ b1; have := b2 _ a1; omega
    wtm_at "s"
    refine k_indexI he a1 ?_
    exact q _ mn' mx ⟨a1, a2, a3, a4, by rw [if_pos c]⟩
  · wtm_at "s"
    obtain ⟨w, r, rfl⟩ := List.exists_cons_of_ne_nil ne
    obtain ⟨x, hx, dx⟩ := dpa_get2 dxs (i := 0) (d := dPair w) rfl
    obtain ⟨p, rfl, hp⟩ := dp_pair dx
    refine k_ixL hb (atI_nat (j := 0) hx) ?_
    wtm_at "s"
    exact q _ mn mx ⟨a1, a2, a3, a4, by rw [if_neg c]; rfl⟩
abbrev sp_cut_at (K : PySem.W.Frag) : Sp := fun vs H Q E => ∃ v0 v1, vs = [v0, v1] ∧ pr_cut_at K v0 v1 H Q E
theorem ok_cut_at (T : Txt K mg A) : FnOk P w K mg base CX0 1 A.a_cut_at A.d_cut_at ["ways", "each"] (sp_cut_at K) := by
  refine T.F_cut_at.ok sc_cut_at (fun vs H Q E h => by obtain ⟨v0, v1, rfl, _⟩ := h; rfl) (fun cdv A0 outer s H vs Q E hr h => ?_)
  obtain ⟨v0, v1, rfl, h⟩ := h
  exact ⟨t_cut_at K, (pss_cons (ps_if (pt_cmpR op_lt (pe_callB (cr_min (by rfl)) (by rfl) T.z_min (by decide +kernel) (pa_cons (pv 1) pa_nil)) (pe_callB (cr_max (by rfl)) (by rfl) T.z_max (by decide +kernel) (pa_cons (pv 1) pa_nil)) (nomark _)) (pss_one (ps_ret (pe_bm PySem.F.plainAttrs_list PySem.F.slot_list_index PySem.F.type_list_index mt_index (pv 1) (pa_cons (pe_callB (cr_min (by rfl)) (by rfl) T.z_min (by decide +kernel) (pa_cons (pv 1) pa_nil)) pa_nil)))) pss_nil)
      (pss_one (ps_ret (pe_ix ix_tup (pe_ix ix_list (pv 0) pe_int (fun _ _ => rfl)) pe_int (fun _ _ => rfl))))), pure_cut_at h⟩


def pr_ring_hues (K : PySem.W.Frag) (A : Ad) (v0 v1 : V) (H : Hp) (Q : VK) (_ : XK) : Prop := ∃ (n : Int) (ws : List (Int × Int)), Dp K H v0 (Net.ring n).d ∧ (Net.ring n).ok ∧ Dp K H v1 (dPairs ws) ∧ ws.length ≤ 40 ∧ (∀ w ∈ ws, isWay (.ring n) w.1 w.2) ∧ LamX.TabS H A.p_ring_hues lq_ring_hues ∧
  ∀ z c mn mx H', H z = none → Same (hid [A.p_ring_hues] H) (hid [A.p_ring_hues] H') → LamX.TabS H' A.p_ring_hues lq_ring_hues → H' z = some (.lst ((rgF n ws c).map V.int)) → (ws = [] ∨ CutAt n ws c mn mx) → Q (.ref z) H'
def t_ring_hues (K : PySem.W.Frag) (A : Ad) : TS :=
  (tSeq (tDrop (tCall (sp_look_ring K) [] E0 (tCons (tVar 0) tNil)))
    (tSeq (tDrop (tCall (sp_look_ways K) [] E0 (tCons (tVar 0) (tCons (tVar 1) tNil))))
    (tSeq (tIfS (tTest (tOp rEq (tCB (rLenX K) (tCons (tVar 1) tNil)) (tC (.int 0)))) (tRet (tLst tNil)) tNext)
    (tSeq (tAsg (tCall (sp_cut_at K) [] E0 (tCons (tVar 1) (tCons (tCall (sp_counted K) [] E0 (tCons (tVar 0) (tCons (tVar 1) tNil))) tNil))) (gName 2))
    (tSeq (tAsg (tLc (iList K (tVar 1)) (gName 9) tYes (tCall (sp_ties_on K) [] E0 (tCons (tVar 0) (tCons (tVar 9) tNil))) [9]) (gName 3))
    (tSeq (tAsg (tLc (iRng1 (tCons (tCB (rLenX K) (tCons (tVar 1) tNil)) tNil)) (gName 7) (tTest (tOp (rIn K false) (tVar 2) (tOp (rIxL K) (tVar 3) (tVar 7)))) (tVar 7) [7]) (gName 4))
    (tSeq (tAsg (tLc (iRng1 (tCons (tCB (rLenX K) (tCons (tVar 1) tNil)) tNil)) (gName 7) (tTest (tOp (rIn K true) (tVar 2) (tOp (rIxL K) (tVar 3) (tVar 7)))) (tVar 7) [7]) (gName 5))
    (tSeq (tAsg (tOp rRep (tLst (tCons (tUn xNeg (tC (.int 1))) tNil)) (tCB (rLenX K) (tCons (tVar 1) tNil))) (gName 6))
    (tSeq (tFor (iList K (tOp rCat (tVar 4) (LxS.tSrtLam K A.p_ring_hues lq_ring_hues 7 (tCons (tVar 5) tNil) (tOp xMod (tOp xSub (tOp (rIxT K) (tOp (rIxL K) (tVar 1) (tVar 7)) (tC (.int 0))) (tVar 2)) (tOp (rIxT K) (tVar 0) (tC (.int 1))))))) (gName 7)
      (tSeq (tAsg (tLc (iRng1 (tCons (tCB (rLenX K) (tCons (tVar 1) tNil)) tNil)) (gName 10) (tB (tCall (sp_have_common K) [] E0 (tCons (tOp (rIxL K) (tVar 3) (tVar 7)) (tCons (tOp (rIxL K) (tVar 3) (tVar 10)) tNil)))) (tOp (rIxL K) (tVar 6) (tVar 10)) [10]) (gName 8))
    (tAsg (tOp (rIxL K) (tLc (iRng1 (tCons (tCB (rLenX K) (tCons (tVar 1) tNil)) tNil)) (gName 11) (tTest (tOp (rIn K true) (tVar 11) (tVar 8))) (tVar 11) [11]) (tC (.int 0))) (gSub (tVar 6) (tVar 7) rSetL))))
    (tRet (tVar 6)))))))))))
theorem tab_same {P : Addr} {q : Str} {H H' : Hp} (t : LamX.TabS H P q) (e : Same H H') : LamX.TabS H' P q := t.ext fun b o h => e b o h
theorem fm_idx (p : Nat → Prop) [DecidablePred p] (m : Nat) : ((List.range m).filterMap fun j => if p j then some (V.int ((j : Nat) : Int)) else none) = ((List.range m).filter fun j => decide (p j)).map fun (j : Nat) => V.int (j : Int) := by
  rw [fm_if p (fun (j : Nat) => V.int (j : Int))]
theorem pure_ring_hues (T : Txt K mg A) {v0 v1 : V} {H : Hp} {Q : VK} {E : XK} (h : pr_ring_hues K A v0 v1 H Q E) : t_ring_hues K A ⟨fun _ H' => Q .non H', Q, fun _ _ => False, fun _ _ => False⟩ [some v0, some v1, none, none, none, none, none, none, none, none, none, none] H := by
  obtain ⟨n, ws, d0, ok, d1, lw, wok, tab, q⟩ := h
  obtain ⟨b, xs, rfl, hb, dxs⟩ := dp_list d1
  obtain ⟨nt, ny, rfl, hnt, hny⟩ := dp_net d0
  obtain rfl := dp_int (show Dp K H ny (.int n) from hny)
  have lx : xs.length = ws.length := by rw [dpa_len dxs, List.length_map]
  obtain ⟨o3, o60⟩ := (show 3 ≤ n ∧ n ≤ 60 from ok)
  unfold t_ring_hues
  wtm_at "s"
  refine ⟨_, rfl, n, d0, ok, ?_⟩
  wtm_at "s"
  refine ⟨_, _, rfl, .ring n, ws, d0, ok, d1, by omega, wok, ?_⟩
  wtm_at "s"
  refine k_it (fun c => ?_) (fun c => ?_)
  · obtain rfl : ws = [] := List.eq_nil_of_length_eq_zero (by omega)
    wtm_at "s"
    refine kL (by simp) (fun z H1 nz s1 e1 => ?_)
    exact q z 0 0 0 H1 nz (hid_mono s1) (tab_same tab s1) e1 (.inl rfl)
  have ne : ws ≠ [] := fun e => by rw [e] at lx; simp only [List.length_nil] at lx; omega
  clear c
  wtm_at "s"
  refine ⟨_, _, rfl, .ring n, ws, d0, ok, d1, by omega, wok, fun cp H1 ncp s1 ecp => ?_⟩
  wtm_at "s"
  refine ⟨_, _, rfl, n, ws, cp, dp_same s1 d1, rfl, sl ecp, ok, ne, fun c mn mx cut => ?_⟩
  obtain ⟨cok, _, _⟩ := cut.ok ne wok
  wtm_at "s"
  refine lc_dp [] (fun b z => by cases z) (s1.seq hb) ws lx (by omega) (fun w => dInts (tiesF (.ring n) w)) ?_ (fun LA ys H2 nLA s2 eLA dLA => ?_) (fun x σ' H q q' h hh => h _ _ hh)
  · intro i x w H' hx hw sm R h1
    obtain ⟨w', c', hw', rfl, hc⟩ := dpairs_get dxs hx
    obtain rfl := Option.some.inj (hw'.symm.trans hw)
    have b := wok w' (List.mem_of_getElem? hw)
    wtm_at "s"
    refine ⟨_, _, rfl, .ring n, w'.1, w'.2, dp_same (s1.trans sm) d0, .tup (same_seqT (s1.trans sm) hc) (.cons (.int _) (.cons (.int _) .nil)), ok, b, fun tl ns H3 ntl s3 htl tt => ?_⟩
    refine h1 _ _ s3 (fun S hS' => dp_of_ints (sl ?_))
    rw [hid_ne (fun z => hS' tl z ntl), htl, tiesF_of ok b tt.srt tt.mem]
  have dLA' : Dp K H2 (.ref LA) (.list (ws.map fun w => dInts (tiesF (.ring n) w))) := .lst (sl eLA) (dpa_same (hid_same _ _) dLA)
  have s02 := s1.trans s2
  have tab2 := tab_same tab s02
  have dLP := LxS.dp_tab tab2 dLA'
  have hbP := LxS.sql_tab tab hb
  have dxP := LxS.dpa_tab tab dxs
  have hnP := LxS.sqt_tab tab hnt
  clear dLA eLA nLA ncp ecp
  have lain : ∀ {H' : Hp} {j : Nat}, Same (hid [A.p_ring_hues] H2) H' → j < ws.length → ∃ zs, SqL K H' LA zs ∧ ∃ z, zs[j]? = some (.ref z) ∧ SqL K H' z ((tiesF (.ring n) (wD ws j)).map V.int) := fun {H' j} s hj => by
    obtain ⟨x, zs, e, hz, dz⟩ := dp_list (dp_same s dLP)
    cases e
    obtain ⟨v, hv, dv⟩ := dpa_get2 dz (i := j) (d := dInts (tiesF (.ring n) (wD ws j))) (by rw [List.getElem?_map, List.getElem?_eq_getElem hj]; unfold wD; rw [List.getD_eq_getElem?_getD, List.getElem?_eq_getElem hj]; rfl)
    obtain ⟨z, rfl, hz'⟩ := dp_ints dv
    exact ⟨zs, hz, z, hv, hz'⟩
  have memT : ∀ {j : Nat}, j < ws.length → (c ∈ tiesF (.ring n) (wD ws j) ↔ onT n ws c j) := fun hj => tiesF_mem ok (wok _ (wD_mem hj)) c
  wtm_at "s"
  refine lc_pureR (by omega) (fun j => if onT n ws c j then some (V.int ((j : Nat) : Int)) else none) ?_ (fun OV H3 nOV s3 eOV => ?_)
  · intro j H' hj sm R R0 g1 g2
    have hj : j < ws.length := by omega
    obtain ⟨zs, hzs, z, hz, hz'⟩ := lain ((hid_mono sm).trans (hid_same _ _)) hj
    rw [Int.zero_add]
    wtm_at "s"
    refine k_ixL hzs (atI_nat hz) ?_
    refine k_inI hz' ?_
    wtm_at "s"
    refine k_it (fun e => ?_) (fun e => ?_)
    · wtm_at "s"
      exact g1 _ (by rw [if_pos ((memT hj).mp e)])
    · exact g2 (by rw [if_neg (fun z => e ((memT hj).mpr z))])
  rw [fm_idx (fun j => onT n ws c j), Int.toNat_natCast, lx] at eOV
  have eOV : H3 OV = some (.lst ((rgO n ws c).map fun (j : Nat) => V.int (j : Int))) := eOV
  wtm_at "s"
  refine lc_pureR (by omega) (fun j => if ¬ onT n ws c j then some (V.int ((j : Nat) : Int)) else none) ?_ (fun OT H4 nOT s4 eOT => ?_)
  · intro j H' hj sm R R0 g1 g2
    have hj : j < ws.length := by omega
    obtain ⟨zs, hzs, z, hz, hz'⟩ := lain ((hid_mono (s3.trans sm)).trans (hid_same _ _)) hj
    rw [Int.zero_add]
    wtm_at "s"
    refine k_ixL hzs (atI_nat hz) ?_
    refine k_notInI hz' ?_
    wtm_at "s"
    refine k_itn (fun e => ?_) (fun e => ?_)
    · wtm_at "s"
      exact g1 _ (by rw [if_pos (fun z => e ((memT hj).mpr z))])
    · exact g2 (by rw [if_neg (fun z => z ((memT hj).mp e))])
  rw [fm_idx (fun j => ¬ onT n ws c j), Int.toNat_natCast, lx] at eOT
  have eOT : H4 OT = some (.lst ((rgR n ws c).map fun (j : Nat) => V.int (j : Int))) := by
    rw [eOT]
    congr 3
    exact List.filter_congr fun j _ => decide_not
  wtm_at "s"
  refine kL (by simp) (fun z0 H5 nz0 s5 e5 => ?_)
  wtm_at "s"
  refine k_rep e5 (by omega) (by omega) (by simp; omega) (fun z nz => ?_)
  have s6 := same_new (o := .lst (List.replicate (xs.length : Int).toNat [V.int (-1)]).flatten) nz
  have e6 : upd H5 z (.lst (List.replicate (xs.length : Int).toNat [V.int (-1)]).flatten) z = some (.lst ((rgS n ws c 0).1.map V.int)) := by
    rw [upd_same, Int.toNat_natCast, lx]
    show _ = some (HO.lst ((List.replicate ws.length (-1 : Int)).map V.int))
    congr 2
    generalize ws.length = m
    induction m with
    | zero => rfl
    | succ m ih => rw [List.replicate_succ, List.flatten_cons, ih]; rfl
  generalize upd H5 z (.lst (List.replicate (xs.length : Int).toNat [V.int (-1)]).flatten) = H6 at s6 e6 ⊢
  have s46 := s5.trans s6
  have s26 := s3.trans (s4.trans s46)
  have s06 := s02.trans s26
  have eOV6 := (s4.trans s46) _ _ eOV
  have eOT6 := s46 _ _ eOT
  have nz2 : H2 z = none := (s3.trans (s4.trans s5)).free nz
  have nz0 : H z = none := (s02.trans (s3.trans (s4.trans s5))).free nz
  have hO0 : H OV = none := s02.free nOV
  have tab6 := tab_same tab s06
  have nP : ∀ {H' : Hp} {x : Addr}, LamX.TabS H' A.p_ring_hues lq_ring_hues → H' x = none → x ∉ [A.p_ring_hues] := fun t e => by simpa using LxS.tab_ne t e
  have lo6 : Same (hid [A.p_ring_hues] H) (hid [A.p_ring_hues] H6) := hid_mono s06
  have la6 : Same (hid [A.p_ring_hues] H2) (hid [A.p_ring_hues] H6) := hid_mono s26
  clear s46 s26 s06 s6 e5 s5 eOT nOT s4 eOV nOV s3 s2 s1
  wtm_at "s"
  have pick : ∀ {H' : Hp} {j : Nat}, Same (hid [A.p_ring_hues] H) H' → j < ws.length → ∃ p, xs[j]? = some (.ref p) ∧ SqT K H' p [.int (wD ws j).1, .int (wD ws j).2] := fun {H' j} s hj => by
    obtain ⟨x, hx, dx⟩ := dpa_get2 (dpa_same s dxP) (i := j) (d := dPair (wD ws j)) (by rw [List.getElem?_map, List.getElem?_eq_getElem hj]; unfold wD; rw [List.getD_eq_getElem?_getD, List.getElem?_eq_getElem hj]; rfl)
    obtain ⟨p, rfl, hp⟩ := dp_pair dx
    exact ⟨p, hx, hp⟩
  have eR : ((rgR n ws c).map fun (j : Nat) => (j : Int)).map V.int = (rgR n ws c).map fun (j : Nat) => V.int (j : Int) := by rw [List.map_map]; rfl
  have rl : ∀ j ∈ rgR n ws c, j < ws.length := fun j hj => List.mem_range.mp (List.mem_filter.mp hj).1
  have lR : (rgR n ws c).length ≤ ws.length := by
    have := List.length_filter_le (fun k => !decide (onT n ws c k)) (List.range ws.length)
    rwa [List.length_range] at this
  have lO : (rgO n ws c).length ≤ ws.length := by
    have := List.length_filter_le (fun k => decide (onT n ws c k)) (List.range ws.length)
    rwa [List.length_range] at this
  refine LxS.k_srtL (l := OT) (ns := (rgR n ws c).map fun (j : Nat) => (j : Int)) (fun R hR => by wtm_at "s"; exact hR) tab6 (by rw [eR]; exact sl eOT6) (by rw [List.length_map]; omega) (rgK n ws c) (fun H7 S7 tab7 => ⟨fun x hx => ?_, fun a H8 na na6 s8 e8 => ?_⟩)
  · obtain ⟨j, hj, rfl⟩ := List.mem_map.mp hx
    have SS := (lo6.trans S7).trans (hid_same _ _)
    obtain ⟨p, hx, hp⟩ := pick SS (rl j hj)
    have hn' := same_seqT SS hnP
    wtm_at "s"
    refine k_ixL (SS.seq hbP) (atI_nat hx) ?_
    wtm_at "s"
    exact ⟨by unfold rgK; rw [Int.toNat_natCast], rfl⟩
  have eO7 := keeps S7 eOV6 (nP tab hO0)
  wtm_at "s"
  have e8 : H8 a = some (.lst ((ordK (rgK n ws c) (rgR n ws c)).map fun (j : Nat) => V.int (j : Int))) := by
    rw [e8, ← ordK_back, List.map_map]; rfl
  have lK : (ordK (rgK n ws c) (rgR n ws c)).length ≤ ws.length := by rw [(ordK_perm _ _).length_eq]; exact lR
  refine k_cat (s8 _ _ eO7) e8 (by rw [List.length_map, List.length_map]; omega) (fun o no => ?_)
  have s9 := same_new (o := .lst (((rgO n ws c).map fun (j : Nat) => V.int (j : Int)) ++ ((ordK (rgK n ws c) (rgR n ws c)).map fun (j : Nat) => V.int (j : Int)))) no
  have e9 : upd H8 o (.lst (((rgO n ws c).map fun (j : Nat) => V.int (j : Int)) ++ ((ordK (rgK n ws c) (rgR n ws c)).map fun (j : Nat) => V.int (j : Int)))) o = some (.lst ((rgOrd n ws c).map fun (j : Nat) => V.int (j : Int))) := by
    rw [upd_same, ← List.map_append]; rfl
  generalize upd H8 o (.lst (((rgO n ws c).map fun (j : Nat) => V.int (j : Int)) ++ ((ordK (rgK n ws c) (rgR n ws c)).map fun (j : Nat) => V.int (j : Int)))) = H9 at s9 e9 ⊢
  have s79 := s8.trans s9
  have ez8 := s8 _ _ (keeps S7 e6 (nP tab nz0))
  have noz : o ≠ z := (ne_of_none ez8 no).symm
  have lo9 := (lo6.trans S7).trans (hid_mono s79)
  have la9 := (la6.trans S7).trans (hid_mono s79)
  have tab9 := tab_same tab7 s79
  have ez9 := s9 _ _ ez8
  clear s79 ez8 no s9 e8 s8 na na6 eO7 S7 tab7 tab6 lo6 la6 eOV6 eOT6 e6
  wtm_at "s"
  refine forL (sl e9) (fun i σ' H' => Same (hid [A.p_ring_hues] H) (hid [A.p_ring_hues] H') ∧ Same (hid [A.p_ring_hues] H2) (hid [A.p_ring_hues] H') ∧ LamX.TabS H' A.p_ring_hues lq_ring_hues ∧ H' z = some (.lst ((rgS n ws c i).1.map V.int)) ∧ H' o = some (.lst ((rgOrd n ws c).map fun (j : Nat) => V.int (j : Int))) ∧
      ∃ k7 k8, σ' = [some (.ref nt), some (.ref b), some (.int c), some (.ref LA), some (.ref OV), some (.ref OT), some (.ref z), k7, k8, none, none, none])
    ⟨lo9, la9, tab9, ez9, e9, _, _, rfl⟩ (fun i σ' H' _ e => sl e.2.2.2.2.1) ?_ ?_
  · clear lo9 la9 tab9 ez9 e9
    rintro i x σ' H6 hx ⟨S6, M6, tab6, ez, eo, k7, k8, rfl⟩
    obtain ⟨k, hk, rfl⟩ : ∃ k, (rgOrd n ws c)[i]? = some k ∧ x = .int (k : Nat) := by
      rw [List.getElem?_map] at hx
      obtain ⟨k, h1, h2⟩ := Option.map_eq_some_iff.mp hx
      exact ⟨k, h1, h2.symm⟩
    have hi : i < ws.length := by have := (List.getElem?_eq_some_iff.mp hk).1; rwa [rgOrd_len] at this
    have km := rgOrd_lt (List.mem_of_getElem? hk)
    have g := rg_inv ok wok cok i (by omega)
    have nx := rgS_next hk
    wtm_at "s"
    refine lc_growR (by omega) (fun j => if meetB (.ring n) (wD ws k) (wD ws j) = true then some (V.int ((rgS n ws c i).1.getD j (-1))) else none) ?_ (fun D H7 nD s7 eD => ?_)
    · intro j H8 hj sm R R0 g1 g2
      have hj : j < ws.length := by omega
      have SS := (M6.trans (hid_mono sm)).trans (hid_same _ _)
      obtain ⟨zs, hzs, zk, hzk, hzk'⟩ := lain SS km
      obtain ⟨zs', hzs', zj, hzj, hzj'⟩ := lain SS hj
      rw [Int.zero_add]
      wtm_at "s"
      refine k_ixL hzs (atI_nat hzk) ?_
      wtm_at "s"
      refine k_ixL hzs' (atI_nat hzj) ?_
      wtm_at "s"
      refine ⟨_, _, rfl, zk, zj, _, _, rfl, rfl, hzk', hzj', ?_, fun H9 s9 => ?_⟩
      · have := tiesF_len (.ring n) (wD ws k)
        have : (Net.ring n).ties = n.toNat := rfl
        omega
      wtm_at "s"
      rw [show commonB (tiesF (.ring n) (wD ws k)) (tiesF (.ring n) (wD ws j)) = meetB (.ring n) (wD ws k) (wD ws j) from rfl]
      cases hm : meetB (.ring n) (wD ws k) (wD ws j) with
      | true =>
        wtm_at "s"
        refine k_ixN (sl (s9 _ _ (sm _ _ ez))) (x := (rgS n ws c i).1.getD j (-1)) (by rw [List.getD_eq_getElem?_getD, List.getElem?_eq_getElem (by rw [g.len]; exact hj)]; rfl) ?_
        exact g1 _ _ (by rw [if_pos hm]) s9
      | false => exact g2 _ (by rw [if_neg (by rw [hm]; simp)]) s9
    rw [fm_ints (fun j => meetB (.ring n) (wD ws k) (wD ws j) = true) (fun j => (rgS n ws c i).1.getD j (-1)), Int.toNat_natCast, lx] at eD
    have eD : H7 D = some (.lst ((rgT n ws (rgS n ws c i).1 (rgS n ws c i).2 k).map V.int)) := eD
    obtain ⟨L, h1, _, h3⟩ := (rg_tak ok wok cok hk g).few
    obtain ⟨h, r, eF, h0, hL, _⟩ := ffree_hd h1 h3
    wtm_at "s"
    refine lc_pureR (by omega) (fun j => if ((j : Nat) : Int) ∈ rgT n ws (rgS n ws c i).1 (rgS n ws c i).2 k then none else some (V.int ((j : Nat) : Int))) ?_ (fun D2 H9 nD2 s9 eD2 => ?_)
    · intro j H8 hj sm R R0 g1 g2
      rw [Int.zero_add]
      wtm_at "s"
      refine k_itn (fun c => ?_) (fun c => ?_)
      · wtm_at "s"
        exact g1 _ (by rw [if_neg c])
      · exact g2 (by rw [if_pos c])
    rw [ffree_V, Int.toNat_natCast, lx, eF] at eD2
    have s69 := s7.trans s9
    wtm_at "s"
    refine k_ixN (i := 0) (sl eD2) (x := h) rfl ?_
    wtm_at "s"
    refine k_setI (s69 _ _ ez) (by omega) (by rw [g.len]; omega) ?_
    have zP := nP tab nz0
    refine ⟨same_hid_mut (S6.trans (hid_mono s69)) (by rw [hid_ne zP]; exact nz0), same_hid_mut (M6.trans (hid_mono s69)) (by rw [hid_ne zP]; exact nz2), LxS.tab_mut (tab_same tab6 s69) (by simpa using zP) (s69 _ _ ez), ?_, ?_, _, _, rfl⟩
    · rw [upd_same, nx]
      unfold gstep
      rw [eF, Int.toNat_natCast]
      rfl
    · rw [upd_ne noz]
      exact s69 _ _ eo
  · rintro σ' H6 ⟨S6, M6, tab6, ez, eo, k7, k8, rfl⟩
    wtm_at "s"
    rw [show ((rgOrd n ws c).map fun (j : Nat) => V.int (j : Int)).length = ws.length by rw [List.length_map, rgOrd_len]] at ez
    exact q z c mn mx H6 nz0 S6 tab6 ez (.inr cut)
abbrev sp_ring_hues (K : PySem.W.Frag) (A : Ad) : Sp := fun vs H Q E => ∃ v0 v1, vs = [v0, v1] ∧ pr_ring_hues K A v0 v1 H Q E
theorem ok_ring_hues (T : Txt K mg A) : FnOk P w K mg base CX0 5 A.a_ring_hues A.d_ring_hues ["net", "ways"] (sp_ring_hues K A) := by
  refine T.F_ring_hues.okC T.L_ring_hues sc_ring_hues (fun vs H Q E h => by obtain ⟨v0, v1, rfl, _⟩ := h; rfl) (fun A0 outer s H vs Q E hr h => ?_)
  obtain ⟨v0, v1, rfl, h⟩ := h
  exact ⟨t_ring_hues K A, (pss_cons (ps_expr (pe_call (ok_look_ring (mg := mg) (base := base) T) (hr.mono (by decide)) (by rfl) T.g_look_ring T.F_look_ring.kp T.b_look_ring .nil pass0 (pa_cons (pv 0) pa_nil)))
      (pss_cons (ps_expr (pe_call (ok_look_ways (mg := mg) (base := base) T) (hr.mono (by decide)) (by rfl) T.g_look_ways T.F_look_ways.kp T.b_look_ways .nil pass0 (pa_cons (pv 0) (pa_cons (pv 1) pa_nil))))
      (pss_cons (ps_if (pt_cmpR op_eq (pe_callB q_len (by rfl) T.z_len (by decide +kernel) (pa_cons (pv 1) pa_nil)) pe_int (nomark _)) (pss_one (ps_ret (pe_lst pa_nil))) pss_nil)
      (pss_cons (ps_set (i := 2) sc_ring_hues.nd rfl (Or.inr rfl) (pe_call (ok_cut_at (mg := mg) (base := base) T) (hr.mono (by decide)) (by rfl) T.g_cut_at T.F_cut_at.kp T.b_cut_at .nil pass0 (pa_cons (pv 1) (pa_cons (pe_call (ok_counted (mg := mg) (base := base) T) (hr.mono (by decide)) (by rfl) T.g_counted T.F_counted.kp T.b_counted .nil pass0 (pa_cons (pv 0) (pa_cons (pv 1) pa_nil))) pa_nil))))
      (pss_cons (ps_set (i := 3) sc_ring_hues.nd rfl (Or.inr rfl) (pe_lc (own := [("way", 9)]) (by rfl) sc_ring_hues.nd (pi_list (pv 1)) (blkOk_by (own := [("way", 9)]) (N := ["net", "ways", "cut", "lain", "over", "others", "hues", "k", "taken", "way", "j", "hue"]) (sc := defScope s_ring_hues) (by decide +kernel)) (fun _ _ _ _ _ => (pg_name (i := 9) sc_ring_hues.nd rfl (Or.inl rfl))) (fun _ _ _ _ _ => pts_nil) (fun _ _ _ _ _ => (pe_call (ok_ties_on (mg := mg) (base := base) T) (hr.mono (by decide)) (by rfl) T.g_ties_on T.F_ties_on.kp T.b_ties_on .nil pass0 (pa_cons (pv 0) (pa_cons (pv 9) pa_nil))))))
      (pss_cons (ps_setLc (i := 4) (own := [("k", 7)]) (by rfl) sc_ring_hues.nd rfl rfl (sw_true rfl rfl rfl (by decide +kernel)) (pi_range1 (by rfl) T.z_range (pa_cons (pe_callB q_len (by rfl) T.z_len (by decide +kernel) (pa_cons (pv 1) pa_nil)) pa_nil)) (blkOk_by (own := [("k", 7)]) (N := ["net", "ways", "cut", "lain", "over", "others", "hues", "k", "taken", "way", "j", "hue"]) (sc := defScope s_ring_hues) (by decide +kernel)) (fun _ _ _ _ _ => (pg_name (i := 7) sc_ring_hues.nd rfl (Or.inl rfl))) (fun _ _ _ _ _ => (pts_one (pt_cmpR op_in_seq (pv 2) (pe_ix ix_list (pv 3) (pv 7) (fun _ _ => rfl)) (by rfl)))) (fun _ _ _ _ _ => (pv 7)))
      (pss_cons (ps_setLc (i := 5) (own := [("k", 7)]) (by rfl) sc_ring_hues.nd rfl rfl (sw_true rfl rfl rfl (by decide +kernel)) (pi_range1 (by rfl) T.z_range (pa_cons (pe_callB q_len (by rfl) T.z_len (by decide +kernel) (pa_cons (pv 1) pa_nil)) pa_nil)) (blkOk_by (own := [("k", 7)]) (N := ["net", "ways", "cut", "lain", "over", "others", "hues", "k", "taken", "way", "j", "hue"]) (sc := defScope s_ring_hues) (by decide +kernel)) (fun _ _ _ _ _ => (pg_name (i := 7) sc_ring_hues.nd rfl (Or.inl rfl))) (fun _ _ _ _ _ => (pts_one (pt_cmpR op_notIn_seq (pv 2) (pe_ix ix_list (pv 3) (pv 7) (fun _ _ => rfl)) (by rfl)))) (fun _ _ _ _ _ => (pv 7)))
      (pss_cons (ps_set (i := 6) sc_ring_hues.nd rfl (Or.inr rfl) (pe_op op_rep (pe_lst (pa_cons (pe_un un_neg pe_int) pa_nil)) (pe_callB q_len (by rfl) T.z_len (by decide +kernel) (pa_cons (pv 1) pa_nil))))
      (pss_cons (ps_for PassesOwn.never rfl (pi_list (pe_op op_cat (pv 4) (LxS.pe_srtLam (i := 7) (j := 0) (k := "k") (by rfl) T.z_sorted (pa_cons (pv 5) pa_nil) (TbOk.t_ring_hues (mg := mg) (base := base) (A := A)) (by rfl) (LxS.lam1_by (N := ["net", "ways", "cut", "lain", "over", "others", "hues", "k", "taken", "way", "j", "hue"]) (sc := defScope s_ring_hues) (by decide +kernel)) (hr.mono (by decide)) (fun A0 outer s H f0 c0 hr => (pe_op op_mod (pe_op op_sub (pe_ix ix_tup (pe_ix ix_list (pv 1) (pv 7) (fun _ _ => rfl)) pe_int (fun _ _ => rfl)) (pv 2)) (pe_ix ix_tup (pv 0) pe_int (fun _ _ => rfl))))))) (pg_name (i := 7) sc_ring_hues.nd rfl (Or.inr rfl))
      (pss_cons (ps_set (i := 8) sc_ring_hues.nd rfl (Or.inr rfl) (pe_lc (own := [("j", 10)]) (by rfl) sc_ring_hues.nd (pi_range1 (by rfl) T.z_range (pa_cons (pe_callB q_len (by rfl) T.z_len (by decide +kernel) (pa_cons (pv 1) pa_nil)) pa_nil)) (blkOk_by (own := [("j", 10)]) (N := ["net", "ways", "cut", "lain", "over", "others", "hues", "k", "taken", "way", "j", "hue"]) (sc := defScope s_ring_hues) (by decide +kernel)) (fun _ _ _ _ _ => (pg_name (i := 10) sc_ring_hues.nd rfl (Or.inl rfl))) (fun _ _ _ _ _ => (pts_one (pt_val (pe_call (ok_have_common (mg := mg) (base := base) T) (hr.mono (by decide)) (by rfl) T.g_have_common T.F_have_common.kp T.b_have_common .nil pass0 (pa_cons (pe_ix ix_list (pv 3) (pv 7) (fun _ _ => rfl)) (pa_cons (pe_ix ix_list (pv 3) (pv 10) (fun _ _ => rfl)) pa_nil)))))) (fun _ _ _ _ _ => (pe_ix ix_list (pv 6) (pv 10) (fun _ _ => rfl)))))
      (pss_one (ps_asg (pe_ix ix_list (pe_lc (own := [("hue", 11)]) (by rfl) sc_ring_hues.nd (pi_range1 (by rfl) T.z_range (pa_cons (pe_callB q_len (by rfl) T.z_len (by decide +kernel) (pa_cons (pv 1) pa_nil)) pa_nil)) (blkOk_by (own := [("hue", 11)]) (N := ["net", "ways", "cut", "lain", "over", "others", "hues", "k", "taken", "way", "j", "hue"]) (sc := defScope s_ring_hues) (by decide +kernel)) (fun _ _ _ _ _ => (pg_name (i := 11) sc_ring_hues.nd rfl (Or.inl rfl))) (fun _ _ _ _ _ => (pts_one (pt_cmpR op_notIn_seq (pv 11) (pv 8) (by rfl)))) (fun _ _ _ _ _ => (pv 11))) pe_int (fun _ _ => rfl)) (pg_sub (pv 6) (pv 7) set_list)))))
      (pss_one (ps_ret (pv 6)))))))))))), pure_ring_hues T h⟩


def pr_law_mix (K : PySem.W.Frag) (v0 v1 : V) (H : Hp) (Q : VK) (_ : XK) : Prop := ∃ x k : Int, v0 = .int x ∧ v1 = .int k ∧ 0 ≤ x ∧ x < 2147483629 ∧ 0 ≤ k ∧ k < 10000000 ∧ ∀ r, 0 ≤ r → r < 2147483587 → Q (.int r) H
def t_law_mix (K : PySem.W.Frag) : TS :=
  (tSeq (tAsg (tOp xMod (tOp xMul (tOp xAdd (tOp xAdd (tOp xMul (tVar 0) (tVar 0)) (tOp xMul (tVar 1) (tVar 0))) (tOp xMul (tOp xMul (tC (.int 7)) (tVar 1)) (tVar 1))) (tC (.int 1103515245))) (tC (.int 2147483629))) (gName 2))
    (tRet (tOp xMod (tOp xMul (tVar 2) (tVar 2)) (tC (.int 2147483587)))))
theorem pure_law_mix {v0 v1 : V} {H : Hp} {Q : VK} {E : XK} (h : pr_law_mix K v0 v1 H Q E) : t_law_mix K ⟨fun _ H' => Q .non H', Q, fun _ _ => False, fun _ _ => False⟩ [some v0, some v1, none] H := by
  obtain ⟨x, k, rfl, rfl, x0, x1, k0, k1, q⟩ := h
  unfold t_law_mix
  wtm_at "s"
  exact q _ (Int.emod_nonneg _ (by decide)) (Int.emod_lt_of_pos _ (by decide))
abbrev sp_law_mix (K : PySem.W.Frag) : Sp := fun vs H Q E => ∃ v0 v1, vs = [v0, v1] ∧ pr_law_mix K v0 v1 H Q E
theorem ok_law_mix (T : Txt K mg A) : FnOk P w K mg base CX0 1 A.a_law_mix A.d_law_mix ["_law_number", "_law_k"] (sp_law_mix K) := by
  refine T.F_law_mix.ok sc_law_mix (fun vs H Q E h => by obtain ⟨v0, v1, rfl, _⟩ := h; rfl) (fun cdv A0 outer s H vs Q E hr h => ?_)
  obtain ⟨v0, v1, rfl, h⟩ := h
  exact ⟨t_law_mix K, (pss_cons (ps_set (i := 2) sc_law_mix.nd rfl (Or.inl rfl) (pe_op op_mod (pe_op op_mul (pe_op op_add (pe_op op_add (pe_op op_mul (pv 0) (pv 0)) (pe_op op_mul (pv 1) (pv 0))) (pe_op op_mul (pe_op op_mul pe_int (pv 1)) (pv 1))) pe_int) pe_int))
      (pss_one (ps_ret (pe_op op_mod (pe_op op_mul (pv 2) (pv 2)) pe_int)))), pure_law_mix h⟩
def pr_law_left (K : PySem.W.Frag) (v0 : V) (H : Hp) (Q : VK) (_ : XK) : Prop := ∃ x : Int, v0 = .int x ∧ ∀ p H', H p = none → Same H H' → Le H' p 0 → Q (.ref p) H'
def t_law_left (K : PySem.W.Frag) : TS :=
  (tSeq (tIfS (tTest (tOp xLt (tVar 0) (tOp xPow (tC (.int 10)) (tC (.int 18))))) (tRet (tLst (tCons (tOp xMod (tVar 0) (tC (.int 2147483629))) (tCons (tC (.int 0)) (tCons (tC (.int 0)) tNil))))) tNext)
    (tRet (tLst (tCons (tOp xSub (tVar 0) (tOp xPow (tC (.int 10)) (tC (.int 18)))) (tCons (tC (.int 1)) (tCons (tC (.int 0)) tNil))))))
theorem pure_law_left {v0 : V} {H : Hp} {Q : VK} {E : XK} (h : pr_law_left K v0 H Q E) : t_law_left K ⟨fun _ H' => Q .non H', Q, fun _ _ => False, fun _ _ => False⟩ [some v0] H := by
  obtain ⟨x, rfl, q⟩ := h
  unfold t_law_left
  wtm_at "s"
  refine k_it (fun c => ?_) (fun c => ?_)
  · wtm_at "s"
    refine ⟨sz (by simp), fun p np => ?_⟩
    exact q p _ np (same_new np) ⟨⟨_, _, upd_same, fun _ => ⟨Int.emod_nonneg _ (by decide), Int.emod_lt_of_pos _ (by decide)⟩⟩, by decide⟩
  · wtm_at "s"
    refine ⟨sz (by simp), fun p np => ?_⟩
    exact q p _ np (same_new np) ⟨⟨_, _, upd_same, fun z => absurd z (by decide)⟩, by decide⟩
abbrev sp_law_left (K : PySem.W.Frag) : Sp := fun vs H Q E => ∃ v0, vs = [v0] ∧ pr_law_left K v0 H Q E
theorem ok_law_left (T : Txt K mg A) : FnOk P w K mg base CX0 1 A.a_law_left A.d_law_left ["_law_cell"] (sp_law_left K) := by
  refine T.F_law_left.ok sc_law_left (fun vs H Q E h => by obtain ⟨v0, rfl, _⟩ := h; rfl) (fun cdv A0 outer s H vs Q E hr h => ?_)
  obtain ⟨v0, rfl, h⟩ := h
  exact ⟨t_law_left K, (pss_cons (ps_if (pt_cmpR op_lt (pv 0) (pe_op op_pow pe_int pe_int) (nomark _)) (pss_one (ps_ret (pe_lst (pa_cons (pe_op op_mod (pv 0) pe_int) (pa_cons pe_int (pa_cons pe_int pa_nil)))))) pss_nil)
      (pss_one (ps_ret (pe_lst (pa_cons (pe_op op_sub (pv 0) (pe_op op_pow pe_int pe_int)) (pa_cons pe_int (pa_cons pe_int pa_nil))))))), pure_law_left h⟩
def pr_law_draw (K : PySem.W.Frag) (v0 v1 : V) (H : Hp) (Q : VK) (_ : XK) : Prop := ∃ (pu : Addr) (k m : Int), v0 = .ref pu ∧ v1 = .int m ∧ Le H pu k ∧ k < 1000000 ∧ 0 < m ∧ m < 2 ^ 200 ∧ ∀ r H', 0 ≤ r → r < m → Le H' pu (k + 1) → Same (hid [pu] H) (hid [pu] H') → Q (.int r) H'
def t_law_draw (K : PySem.W.Frag) : TS :=
  (tSeq (tAsg (tOp xAdd (tOp (rIxL K) (tVar 0) (tC (.int 2))) (tC (.int 1))) (gSub (tVar 0) (tC (.int 2)) rSetL))
    (tSeq (tIfS (tTest (tOp rEq (tOp (rIxL K) (tVar 0) (tC (.int 1))) (tC (.int 0)))) (tSeq (tAsg (tCall (sp_law_mix K) [] E0 (tCons (tOp (rIxL K) (tVar 0) (tC (.int 0))) (tCons (tOp (rIxL K) (tVar 0) (tC (.int 2))) tNil))) (gName 2))
    (tSeq (tIfS (tTest (tOp xGt (tVar 1) (tOp xPow (tC (.int 10)) (tC (.int 9))))) (tRet (tOp xMod (tOp xMul (tVar 2) (tOp xAdd (tOp xPow (tCall (sp_law_mix K) [] E0 (tCons (tOp (rIxL K) (tVar 0) (tC (.int 0))) (tCons (tOp xAdd (tOp (rIxL K) (tVar 0) (tC (.int 2))) (tC (.int 500))) tNil))) (tC (.int 3))) (tC (.int 1)))) (tVar 1))) tNext)
    (tRet (tOp xMod (tOp xMod (tOp xMul (tVar 2) (tOp xAdd (tVar 2) (tC (.int 2)))) (tC (.int 2147483579))) (tVar 1))))) tNext)
    (tSeq (tAsg (tOp xMod (tOp (rIxL K) (tVar 0) (tC (.int 0))) (tVar 1)) (gName 3))
    (tSeq (tAsg (tOp xDivW (tOp (rIxL K) (tVar 0) (tC (.int 0))) (tVar 1)) (gSub (tVar 0) (tC (.int 0)) rSetL))
    (tRet (tVar 3))))))
theorem pure_law_draw {v0 v1 : V} {H : Hp} {Q : VK} {E : XK} (h : pr_law_draw K v0 v1 H Q E) : t_law_draw K ⟨fun _ H' => Q .non H', Q, fun _ _ => False, fun _ _ => False⟩ [some v0, some v1, none, none] H := by
  obtain ⟨pu, k, m, rfl, rfl, hL, k1, m0, m1, q⟩ := h
  obtain ⟨⟨x, f, hp, hx⟩, k0⟩ := hL
  unfold t_law_draw
  wtm_at "s"
  refine k_ixL (sl hp) rfl ?_
  wtm_at "s"
  refine k_setL hp (j := 2) rfl ?_
  have e1 : upd H pu (.lst [.int x, .int f, .int (k + 1)]) pu = some (.lst [.int x, .int f, .int (k + 1)]) := upd_same
  have S1 : Same (hid [pu] H) (hid [pu] (upd H pu (.lst [.int x, .int f, .int (k + 1)]))) := same_hid_upd (Same.refl _) (by simp)
  rw [show [V.int x, V.int f, V.int k].set 2 (V.int (k + 1)) = [.int x, .int f, .int (k + 1)] from rfl]
  generalize upd H pu (.lst [.int x, .int f, .int (k + 1)]) = H1 at e1 S1 ⊢
  wtm_at "s"
  refine k_ixL (sl e1) rfl ?_
  wtm_at "s"
  refine k_it (fun c => ?_) (fun c => ?_)
  · obtain ⟨x0, x1⟩ := hx c
    have L1 : Le H1 pu (k + 1) := ⟨⟨x, f, e1, hx⟩, by omega⟩
    wtm_at "s"
    refine k_ixL (sl e1) rfl ?_
    wtm_at "s"
    refine k_ixL (sl e1) rfl ?_
    wtm_at "s"
    refine ⟨_, _, rfl, x, k + 1, rfl, rfl, x0, x1, by omega, by omega, fun r r0 r1 => ?_⟩
    wtm_at "s"
    refine k_it (fun c2 => ?_) (fun c2 => ?_)
    · wtm_at "s"
      refine k_ixL (sl e1) rfl ?_
      wtm_at "s"
      refine k_ixL (sl e1) rfl ?_
      wtm_at "s"
      refine ⟨_, _, rfl, x, k + 1 + 500, rfl, rfl, x0, x1, by omega, by omega, fun r2 r20 r21 => ?_⟩
      wtm_at "s"
      refine k_pow ⟨by decide, by decide, by omega⟩ ?_
      wtm_at "s"
      exact q _ _ (Int.emod_nonneg _ (by omega)) (Int.emod_lt_of_pos _ m0) L1 S1
    · wtm_at "s"
      exact q _ _ (Int.emod_nonneg _ (by omega)) (Int.emod_lt_of_pos _ m0) L1 S1
  · wtm_at "s"
    refine k_ixL (sl e1) rfl ?_
    wtm_at "s"
    refine k_ixL (sl e1) rfl ?_
    wtm_at "s"
    refine k_divW (wide_div m0 (b := 201) (by omega) (by decide) (by decide)) ?_
    wtm_at "s"
    refine k_setL e1 (j := 0) rfl ?_
    wtm_at "s"
    exact q _ _ (Int.emod_nonneg _ (by omega)) (Int.emod_lt_of_pos _ m0) ⟨⟨x / m, f, upd_same, fun z => absurd z c⟩, by omega⟩ (same_hid_upd S1 (by simp))
abbrev sp_law_draw (K : PySem.W.Frag) : Sp := fun vs H Q E => ∃ v0 v1, vs = [v0, v1] ∧ pr_law_draw K v0 v1 H Q E
theorem ok_law_draw (T : Txt K mg A) : FnOk P w K mg base CX0 2 A.a_law_draw A.d_law_draw ["_law_left_here", "_law_base"] (sp_law_draw K) := by
  refine T.F_law_draw.ok sc_law_draw (fun vs H Q E h => by obtain ⟨v0, v1, rfl, _⟩ := h; rfl) (fun cdv A0 outer s H vs Q E hr h => ?_)
  obtain ⟨v0, v1, rfl, h⟩ := h
  exact ⟨t_law_draw K, (pss_cons (ps_asg (pe_op op_add (pe_ix ix_list (pv 0) pe_int (fun _ _ => rfl)) pe_int) (pg_sub (pv 0) pe_int set_list))
      (pss_cons (ps_if (pt_cmpR op_eq (pe_ix ix_list (pv 0) pe_int (fun _ _ => rfl)) pe_int (nomark _)) (pss_cons (ps_set (i := 2) sc_law_draw.nd rfl (Or.inl rfl) (pe_call (ok_law_mix (mg := mg) (base := base) T) (hr.mono (by decide)) (by rfl) T.g_law_mix T.F_law_mix.kp T.b_law_mix .nil pass0 (pa_cons (pe_ix ix_list (pv 0) pe_int (fun _ _ => rfl)) (pa_cons (pe_ix ix_list (pv 0) pe_int (fun _ _ => rfl)) pa_nil))))
      (pss_cons (ps_if (pt_cmpR op_gt (pv 1) (pe_op op_pow pe_int pe_int) (nomark _)) (pss_one (ps_ret (pe_op op_mod (pe_op op_mul (pv 2) (pe_op op_add (pe_op op_pow (pe_call (ok_law_mix (mg := mg) (base := base) T) (hr.mono (by decide)) (by rfl) T.g_law_mix T.F_law_mix.kp T.b_law_mix .nil pass0 (pa_cons (pe_ix ix_list (pv 0) pe_int (fun _ _ => rfl)) (pa_cons (pe_op op_add (pe_ix ix_list (pv 0) pe_int (fun _ _ => rfl)) pe_int) pa_nil))) pe_int) pe_int)) (pv 1)))) pss_nil)
      (pss_one (ps_ret (pe_op op_mod (pe_op op_mod (pe_op op_mul (pv 2) (pe_op op_add (pv 2) pe_int)) pe_int) (pv 1)))))) pss_nil)
      (pss_cons (ps_set (i := 3) sc_law_draw.nd rfl (Or.inl rfl) (pe_op op_mod (pe_ix ix_list (pv 0) pe_int (fun _ _ => rfl)) (pv 1)))
      (pss_cons (ps_asg (pe_op op_fdivW (pe_ix ix_list (pv 0) pe_int (fun _ _ => rfl)) (pv 1)) (pg_sub (pv 0) pe_int set_list))
      (pss_one (ps_ret (pv 3))))))), pure_law_draw h⟩
def pr_law_way (K : PySem.W.Frag) (v0 v1 : V) (H : Hp) (Q : VK) (_ : XK) : Prop := ∃ (pu : Addr) (k m : Int), v0 = .ref pu ∧ v1 = .int m ∧ Le H pu k ∧ k < 900000 ∧ 2 ≤ m ∧ m < 2 ^ 100 ∧
  ∀ p a b H', H p = none → p ∉ [pu] → Le H' pu (k + 2) → Same (hid [pu] H) (hid [pu] H') → H' p = some (.tup [.int a, .int b]) → a ≠ b → 0 ≤ a → a < m → 0 ≤ b → b < m → Q (.ref p) H'
def t_law_way (K : PySem.W.Frag) : TS :=
  (tSeq (tAsg (tCall (sp_law_draw K) [] E0 (tCons (tVar 0) (tCons (tVar 1) tNil))) (gName 2))
    (tSeq (tAsg (tCall (sp_law_draw K) [] E0 (tCons (tVar 0) (tCons (tOp xSub (tVar 1) (tC (.int 1))) tNil))) (gName 3))
    (tRet (tTup (tCons (tVar 2) (tCons (tOp xAdd (tVar 3) (tCB rIntOf (tCons (tOp xGe (tVar 3) (tVar 2)) tNil))) tNil))))))
theorem pure_law_way {v0 v1 : V} {H : Hp} {Q : VK} {E : XK} (h : pr_law_way K v0 v1 H Q E) : t_law_way K ⟨fun _ H' => Q .non H', Q, fun _ _ => False, fun _ _ => False⟩ [some v0, some v1, none, none] H := by
  obtain ⟨pu, k, m, rfl, rfl, hL, k1, m0, m1, q⟩ := h
  unfold t_law_way
  wtm_at "s"
  refine ⟨_, _, rfl, pu, k, m, rfl, rfl, hL, by omega, by omega, by omega, fun r H1 r0 r1 L1 S1 => ?_⟩
  wtm_at "s"
  refine ⟨_, _, rfl, pu, k + 1, m - 1, rfl, rfl, L1, by omega, by omega, by omega, fun r2 H2 r20 r21 L2 S2 => ?_⟩
  wtm_at "s"
  refine ⟨sz (by simp), fun p np => ?_⟩
  have np' := L2.fresh np
  have S3 := S1.trans S2
  have e : (if decide (r ≤ r2) = true then (1 : Int) else 0) = if r ≤ r2 then 1 else 0 := by simp
  refine q p r _ _ (fresh_hid S3 np np') np' (show Le _ pu (k + 2) from (show k + 1 + 1 = k + 2 by omega) ▸ L2.upd np') (S3.trans (same_hid_new np)) upd_same ?_ r0 r1 ?_ ?_
  all_goals rw [e]; split <;> omega
abbrev sp_law_way (K : PySem.W.Frag) : Sp := fun vs H Q E => ∃ v0 v1, vs = [v0, v1] ∧ pr_law_way K v0 v1 H Q E
theorem ok_law_way (T : Txt K mg A) : FnOk P w K mg base CX0 3 A.a_law_way A.d_law_way ["_law_left_here", "_law_many"] (sp_law_way K) := by
  refine T.F_law_way.ok sc_law_way (fun vs H Q E h => by obtain ⟨v0, v1, rfl, _⟩ := h; rfl) (fun cdv A0 outer s H vs Q E hr h => ?_)
  obtain ⟨v0, v1, rfl, h⟩ := h
  exact ⟨t_law_way K, (pss_cons (ps_set (i := 2) sc_law_way.nd rfl (Or.inl rfl) (pe_call (ok_law_draw (mg := mg) (base := base) T) (hr.mono (by decide)) (by rfl) T.g_law_draw T.F_law_draw.kp T.b_law_draw .nil pass0 (pa_cons (pv 0) (pa_cons (pv 1) pa_nil))))
      (pss_cons (ps_set (i := 3) sc_law_way.nd rfl (Or.inl rfl) (pe_call (ok_law_draw (mg := mg) (base := base) T) (hr.mono (by decide)) (by rfl) T.g_law_draw T.F_law_draw.kp T.b_law_draw .nil pass0 (pa_cons (pv 0) (pa_cons (pe_op op_sub (pv 1) pe_int) pa_nil))))
      (pss_one (ps_ret (pe_tup (pa_cons (pv 2) (pa_cons (pe_op op_add (pv 3) (pe_callTy q_intB (by rfl) T.z_int (by decide +kernel) (pa_cons (pe_cmpR op_ge (pv 3) (pv 2) (nomark _)) pa_nil))) pa_nil))))))), pure_law_way h⟩


def WayIn (m : Int) (w : Int × Int) : Prop := w.1 ≠ w.2 ∧ 0 ≤ w.1 ∧ w.1 < m ∧ 0 ≤ w.2 ∧ w.2 < m
/-- a list of drawn ways -/
theorem lc_ways {σ : L2.St} {vs : List Nat} {i j l : Nat} {pu : Addr} {m kk lo : Int} {n : Nat} {H1 : Hp} {QD : Addr → Hp → Prop}
    (hi : ∀ x, ((wipe σ vs).set l (some x))[i]? = some (some (.ref pu))) (hj : ∀ x, ((wipe σ vs).set l (some x))[j]? = some (some (.int m))) (hwp : ∀ x, wipe ((wipe σ vs).set l (some x)) vs = wipe σ vs)
    (L : Le H1 pu kk) (hk : kk + 2 * n < 900000) (m0 : 2 ≤ m) (m1 : m < 2 ^ 100) (hn : n ≤ 10000)
    (h : ∀ D ys ws H', H1 D = none → D ∉ [pu] → Le H' pu (kk + 2 * n) → Same (hid [pu] H1) (hid [pu] H') → H' D = some (.lst ys) → DpAll K (hid [pu, D] H') ys (List.map dPair ws) → ws.length = n → (∀ w ∈ ws, WayIn m w) → QD D H') :
    ∀ D, H1 D = none → ∃ W : Nat → Nat → Hp → Prop, (∃ m, W 0 m (upd H1 D (.lst []))) ∧ ∀ t m' H, W t m' H →
      ((Itr lo n).stop t H ∧ QD D H) ∨ ((Itr lo n).go t H ∧ ∃ Nx : Hp → Prop, (∀ H', Nx H' → ∃ m'', m'' < m' ∧ W (t + 1) m'' H') ∧ ∀ x H', (Itr lo n).yld t H x H' → gName l x (wipe σ vs) H' fun σ2 H2 => wipe σ2 vs = wipe σ vs ∧ tYes σ2 H2 fun b H3 =>
        if b = true then tCall (sp_law_way K) [] E0 (tCons (tVar i) (tCons (tVar j) tNil)) σ2 H3 fun y H4 => ∃ acc, H4 D = some (.lst acc) ∧ acc.length < sizeLine ∧ Nx (upd H4 D (.lst (acc ++ [y]))) else Nx H3) := by
  intro D nD
  have nD' := L.fresh nD
  have fr : hid [pu] H1 D = none := by rw [hid_ne nD']; exact nD
  refine lc_range (fun t H => Le H pu (kk + 2 * t) ∧ Same (hid [pu] H1) (hid [pu] H) ∧ ∃ ys ws, H D = some (.lst ys) ∧ DpAll K (hid [pu, D] H) ys (List.map dPair ws) ∧ ws.length = t ∧ ∀ w ∈ ws, WayIn m w) ⟨by simpa using L.upd nD', same_hid_new nD, [], [], upd_same, .nil, rfl, fun _ z => by cases z⟩ ?_ ?_
  · rintro t H ht ⟨Lt, St, ys, ws, hD, hys, hl, hok⟩
    have ly := dpa_len hys
    rw [List.length_map] at ly
    refine ⟨hwp _, ?_⟩
    refine k_yes (iteT (k_call (k_cons (k_var (hi _) (k_cons (k_var (hj _) (k_nil ?_)))))))
    refine ⟨_, _, rfl, pu, kk + 2 * t, m, rfl, rfl, Lt, by omega, m0, m1, fun p a b H' np np' L' S' hp ne a0 a1 b0 b1 => ?_⟩
    have pd : p ≠ D := fun e => by rw [e, hD] at np; cases np
    refine ⟨ys, keeps S' hD nD', szl (by omega), ?_, ?_, ys ++ [.ref p], ws ++ [(a, b)], upd_same, ?_, by simp [hl], fun w hw => ?_⟩
    · have e : kk + 2 * ((t + 1 : Nat) : Int) = kk + 2 * t + 2 := by omega
      rw [e]; exact L'.upd nD'
    · exact same_hid_mut (St.trans S') fr
    · rw [hid_upd (by simp), List.map_append]
      refine dpa_app (dpa_same (hid_more S' (by simp)) hys) (.cons (dp_of_pair (stp ?_)) .nil)
      rw [hid_ne (not_in2 (fun e => np' (by rw [e]; simp)) pd)]; exact hp
    · rcases List.mem_append.mp hw with hw | hw
      · exact hok w hw
      · have e : w = (a, b) := by simpa using hw
        subst e
        exact ⟨ne, a0, a1, b0, b1⟩
  · rintro H ⟨Lt, St, ys, ws, hD, hys, hl, hok⟩
    exact h D ys ws H nD nD' Lt St hD hys hl hok
/-- draw(left, [..][draw(left, n)]) -/
theorem rd_pick {σ : L2.St} {i : Nat} {pu : Addr} {kk : Int} {cs : List Int} {ta : TA} {hi : Int} {H : Hp} {Q : VK} (hv : σ[i]? = some (some (.ref pu))) (L : Le H pu kk) (hk : kk < 900000)
    (hta : ∀ (H : Hp) (R : List V → Hp → Prop), R (cs.map V.int) H → ta σ H R) (hc : cs.length ≤ 100) (c0 : 0 < cs.length) (hb : ∀ c ∈ cs, 1 ≤ c ∧ c ≤ hi) (hh : hi < 2 ^ 100)
    (q : ∀ d H', 0 ≤ d → d < hi → Le H' pu (kk + 2) → Same (hid [pu] H) (hid [pu] H') → Q (.int d) H') :
    tCall (sp_law_draw K) [] E0 (tCons (tVar i) (tCons (tOp (rIxL K) (tLst ta) (tCall (sp_law_draw K) [] E0 (tCons (tVar i) (tCons (tC (.int cs.length)) tNil)))) tNil)) σ H Q := by
  refine k_call (k_cons (k_var hv (k_cons (k_op (k_lst (hta _ _ ⟨sz (by rw [List.length_map]; omega), fun dl ndl => ?_⟩))))))
  refine k_call (k_cons (k_var hv (k_cons (k_c (k_nil ?_)))))
  have ndl' := L.fresh ndl
  refine ⟨_, _, rfl, pu, kk, cs.length, rfl, rfl, L.upd ndl', by omega, by omega, by omega, fun r H2 r0 r1 L2 S2 => ?_⟩
  refine k_ixI (sl (keeps S2 upd_same ndl')) r0 r1 ?_
  have hm := hb _ (getD_memI r0 r1)
  refine k_nil ?_
  refine ⟨_, _, rfl, pu, kk + 1, _, rfl, rfl, L2, by omega, by omega, by omega, fun d H3 d0 d1 L3 S3 => ?_⟩
  refine q d H3 d0 (by omega) ?_ ((same_hid_new ndl).trans (S2.trans S3))
  rw [show kk + 2 = kk + 1 + 1 by omega]; exact L3
theorem k_repM {H : Hp} {Q : VK} {p : Addr} {xs : List V} {k : Int} (hp : H p = some (.lst xs)) (h0 : 0 ≤ k) (h1 : k < 100000) (h2 : xs.length * k.toNat ≤ 100000) (h : ∀ l H', H l = none → Same H H' → H' l = some (.lst (List.replicate k.toNat xs).flatten) → Q (.ref l) H') : rRep (.ref p) (.int k) H Q :=
  k_rep hp h0 h1 h2 fun l hl => h l _ hl (same_new hl) upd_same
theorem ndI_le : ∀ {J L : List Int}, J.Nodup → (∀ j ∈ J, j ∈ L) → J.length ≤ L.length
  | [], _, _, _ => Nat.zero_le _
  | a :: J, L, nd, h => by
    have nd' := List.nodup_cons.mp nd
    have hz := ndI_le (J := J) (L := L.erase a) nd'.2 fun j hj => (List.mem_erase_of_ne (fun z : j = a => nd'.1 (by rw [← z]; exact hj))).mpr (h j (List.mem_cons_of_mem _ hj))
    have ha := h a List.mem_cons_self
    rw [List.length_erase_of_mem ha] at hz
    have := List.length_pos_of_mem ha
    rw [List.length_cons]
    omega
/-- the one ahead, of the first the last one -/
theorem at_prev {ms : List Int} (nd : ms.Nodup) (l2 : 2 ≤ ms.length) {j : Nat} (hj : j < ms.length) : ∃ a, atI (ms.map V.int) ((j : Int) - 1) = some (.int a) ∧ a ∈ ms ∧ a ≠ ms[j] := by
  cases j with
  | zero =>
    refine ⟨ms[ms.length - 1]'(by omega), ?_, List.getElem_mem _, fun z => ?_⟩
    · unfold atI
      rw [show (((0 : Nat) : Int) - 1) = -1 by omega, ixN_last (by rw [List.length_map]; omega)]
      show (ms.map V.int)[(ms.map V.int).length - 1]? = _
      rw [List.length_map, List.getElem?_map, List.getElem?_eq_getElem (by omega)]; rfl
    · have := (List.getElem_inj nd).mp z
      omega
  | succ j =>
    refine ⟨ms[j]'(by omega), ?_, List.getElem_mem _, fun z => ?_⟩
    · rw [show (((j + 1 : Nat) : Int) - 1) = (j : Int) by omega]
      exact atI_nat (by rw [List.getElem?_map, List.getElem?_eq_getElem (by omega)]; rfl)
    · have := (List.getElem_inj nd).mp z
      omega
def pr_law_rounds (K : PySem.W.Frag) (v0 v1 v2 : V) (H : Hp) (Q : VK) (_ : XK) : Prop := ∃ (pu : Addr) (k m mo : Int), v0 = .ref pu ∧ v1 = .int m ∧ v2 = .int mo ∧ Le H pu k ∧ k < 800000 ∧ 3 ≤ m ∧ m ≤ 60 ∧ 1 ≤ mo ∧ mo ≤ 10 ∧
  ∀ D ys ws kk H', H D = none → D ∉ [pu] → Le H' pu kk → kk ≤ k + 1000 → Same (hid [pu] H) (hid [pu] H') → H' D = some (.lst ys) → DpAll K (hid [pu, D] H') ys (List.map dPair ws) → (ws.length : Int) ≤ 4 * mo → (∀ w ∈ ws, WayIn m w) → Q (.ref D) H'
def t_law_rounds (K : PySem.W.Frag) : TS :=
  (tSeq (tAsg (tLst tNil) (gName 3))
    (tSeq (tFor (iRng1 (tCons (tOp xAdd (tC (.int 1)) (tCall (sp_law_draw K) [] E0 (tCons (tVar 0) (tCons (tVar 2) tNil)))) tNil)) (gName 4)
      (tSeq (tAsg (tCall (sp_law_draw K) [] E0 (tCons (tVar 0) (tCons (tVar 1) tNil))) (gName 5))
    (tSeq (tAsg (tOp xMod (tOp xAdd (tOp xAdd (tVar 5) (tC (.int 1))) (tCall (sp_law_draw K) [] E0 (tCons (tVar 0) (tCons (tOp xSub (tVar 1) (tC (.int 1))) tNil)))) (tVar 1)) (gName 6))
    (tSeq (tAsg (tSrtU K (tLst (tCons (tVar 5) (tCons (tVar 6) (tCons (tCall (sp_law_draw K) [] E0 (tCons (tVar 0) (tCons (tVar 1) tNil))) (tCons (tCall (sp_law_draw K) [] E0 (tCons (tVar 0) (tCons (tVar 1) tNil))) tNil)))))) (gName 7))
    (tFor (iRng1 (tCons (tCB (rLenX K) (tCons (tVar 7) tNil)) tNil)) (gName 8)
      (tDrop (tBM K "list" rIns (tVar 3) (tCons (tCall (sp_law_draw K) [] E0 (tCons (tVar 0) (tCons (tOp xAdd (tCB (rLenX K) (tCons (tVar 3) tNil)) (tC (.int 1))) tNil))) (tCons (tTup (tCons (tOp (rIxL K) (tVar 7) (tOp xSub (tVar 8) (tC (.int 1)))) (tCons (tOp (rIxL K) (tVar 7) (tVar 8)) tNil))) tNil)))))))))
    (tRet (tVar 3))))
theorem pure_law_rounds {v0 v1 v2 : V} {H : Hp} {Q : VK} {E : XK} (h : pr_law_rounds K v0 v1 v2 H Q E) : t_law_rounds K ⟨fun _ H' => Q .non H', Q, fun _ _ => False, fun _ _ => False⟩ [some v0, some v1, some v2, none, none, none, none, none, none] H := by
  obtain ⟨pu, k, m, mo, rfl, rfl, rfl, L, hk, m0, m1, o0, o1, q⟩ := h
  unfold t_law_rounds
  wtm_at "s"
  refine kL (by simp) (fun D H1 nD s1 e1 => ?_)
  have nD' := L.fresh nD
  have L1 := L.same s1
  have fr : hid [pu] H D = none := by rw [hid_ne nD']; exact nD
  wtm_at "s"
  refine ⟨_, _, rfl, pu, k, mo, rfl, rfl, L1, by omega, by omega, by omega, fun r H2 r0 r1 L2 S2 => ?_⟩
  have e2 := keeps S2 e1 nD'
  have S02 : Same (hid [pu] H) (hid [pu] H2) := (hid_mono s1).trans S2
  clear S2 e1 L1 s1
  wtm_at "s"
  refine forR (fun i σ' H' => ∃ ys ws kk k4 k5 k6 k7 k8, σ' = [some (.ref pu), some (.int m), some (.int mo), some (.ref D), k4, k5, k6, k7, k8] ∧ Le H' pu kk ∧ kk ≤ k + 1 + 10 * i ∧ Same (hid [pu] H) (hid [pu] H') ∧ H' D = some (.lst ys) ∧ DpAll K (hid [pu, D] H') ys (List.map dPair ws) ∧ ws.length ≤ 4 * i ∧ ∀ w ∈ ws, WayIn m w)
    ⟨[], [], _, _, _, _, _, _, rfl, L2, by omega, S02, e2, .nil, by simp, fun _ z => by cases z⟩ ?_ ?_
  · clear S02 e2 L2
    rintro i σ' H3 hi ⟨ys, ws, kk, k4, k5, k6, k7, k8, rfl, L3, hkk, S3, hD, hys, hl, hok⟩
    rw [Int.zero_add]
    wtm_at "s"
    refine ⟨_, _, rfl, pu, kk, m, rfl, rfl, L3, by omega, by omega, by omega, fun f H4 f0 f1 L4 S4 => ?_⟩
    wtm_at "s"
    refine ⟨_, _, rfl, pu, kk + 1, m - 1, rfl, rfl, L4, by omega, by omega, by omega, fun d H5 d0 d1 L5 S5 => ?_⟩
    wtm_at "s"
    refine ⟨_, _, rfl, pu, kk + 1 + 1, m, rfl, rfl, L5, by omega, by omega, by omega, fun x H6 x0 x1 L6 S6 => ?_⟩
    wtm_at "s"
    refine ⟨_, _, rfl, pu, kk + 1 + 1 + 1, m, rfl, rfl, L6, by omega, by omega, by omega, fun y H7 y0 y1 L7 S7 => ?_⟩
    have S47 := S4.trans (S5.trans (S6.trans S7))
    have hD7 := keeps S47 hD nD'
    have hys7 := dpa_same (hid_more S47 (S' := [pu, D]) (by simp)) hys
    have S07 := S3.trans S47
    clear S47 S4 S5 S6 S7 L3 L4 L5 L6 hD hys S3
    have on : (f + 1 + d) % m ≠ f ∧ 0 ≤ (f + 1 + d) % m ∧ (f + 1 + d) % m < m := by
      have a := Int.emod_nonneg (f + 1 + d) (show m ≠ 0 by omega)
      have b := Int.emod_lt_of_pos (f + 1 + d) (show 0 < m by omega)
      refine ⟨?_, a, b⟩
      by_cases c : f + 1 + d < m
      · rw [Int.emod_eq_of_lt (by omega) c]; omega
      · rw [← Int.sub_emod_right, Int.emod_eq_of_lt (by omega) (by omega)]; omega
    generalize (f + 1 + d) % m = o at on ⊢
    obtain ⟨on, oo0, oo1⟩ := on
    wtm_at "s"
    refine kL (by simp) (fun sl0 H8 nsl s8 e8 => ?_)
    wtm_at "s"
    have e8' : SqL K H8 sl0 ([f, o, x, y].map V.int) := sl e8
    refine k_srtU e8' (by simp) (Nat.le_trans (unl_le _) (by simp)) (fun ms p H9 srt mem np s9 e9 => ?_)
    have nd : ms.Nodup := srt.imp (fun h => Int.ne_of_lt h)
    have l4 : ms.length ≤ 4 := ndI_le (L := [f, o, x, y]) nd (fun j hj => (mem j).mp hj)
    have l2 : 2 ≤ ms.length := ndI_le (J := [f, o]) (L := ms) (by simp only [List.nodup_cons, List.mem_singleton, List.not_mem_nil, not_false_eq_true, List.nodup_nil, and_self, and_true]; exact fun z => on z.symm) (fun j hj => (mem j).mpr (by
      simp only [List.mem_cons, List.not_mem_nil, or_false] at hj ⊢
      rcases hj with h | h <;> simp [h]))
    have inm : ∀ j ∈ ms, 0 ≤ j ∧ j < m := fun j hj => by
      have := (mem j).mp hj
      simp only [List.mem_cons, List.not_mem_nil, or_false] at this
      omega
    have s79 := s8.trans s9
    have hD9 := s79 _ _ hD7
    have np7 : H7 p = none := s8.free np
    have L9 := L7.same s79
    have pu' : p ∉ [pu] := L7.fresh np7
    have pD : p ≠ D := (ne_of_none hD7 np7).symm
    have hys9 := dpa_same (hid_mono s79) hys7
    have S09 := S07.trans (hid_mono s79)
    have e9' : hid [pu, D] H9 p = some (.lst (ms.map V.int)) := by rw [hid_ne (not_in2 (fun e => pu' (by simp [e])) pD)]; exact e9
    clear s79 s8 s9 e8 e8' nsl np np7 hD7 hys7 L7 S07 e9 mem srt
    wtm_at "s"
    refine forR (fun j σ' H' => ∃ ys' ws' kk' k8, σ' = [some (.ref pu), some (.int m), some (.int mo), some (.ref D), some (.int (i : Nat)), some (.int f), some (.int o), some (.ref p), k8] ∧ Le H' pu kk' ∧ kk' ≤ kk + 4 + j ∧ Same (hid [pu] H) (hid [pu] H') ∧ Same (hid [pu, D] H9) (hid [pu, D] H') ∧ H' D = some (.lst ys') ∧ DpAll K (hid [pu, D] H') ys' (List.map dPair ws') ∧ ws'.length = ws.length + j ∧ ∀ w ∈ ws', WayIn m w)
      ⟨ys, ws, _, _, rfl, L9, by omega, S09, Same.refl _, hD9, hys9, by omega, hok⟩ ?_ ?_
    · rintro j σ' HA hj ⟨ys', ws', kk', k8, rfl, LA, hkA, SA, MA, hDA, hysA, hlA, hokA⟩
      have hj : j < ms.length := by omega
      have lyA := dpa_len hysA
      rw [List.length_map] at lyA
      have hi' : i < 10 := by omega
      wtm_at "s"
      refine k_tyL (sl hDA) ?_
      wtm_at "s"
      refine ⟨_, _, rfl, pu, kk', _, rfl, rfl, LA, by omega, by omega, by omega, fun r' HB r0' r1' LB SB => ?_⟩
      have epB := (MA.trans (hid_more SB (S' := [pu, D]) (by simp))) _ _ e9'
      have epB' := hid_same _ _ _ _ epB
      have hDB := keeps SB hDA nD'
      obtain ⟨a, ha, am, an⟩ := at_prev nd l2 hj
      rw [Int.zero_add]
      wtm_at "s"
      refine k_ixL (sl epB') ha ?_
      wtm_at "s"
      refine k_ixN (sl epB') (List.getElem?_eq_getElem hj) ?_
      wtm_at "s"
      refine kT (by simp) (fun t HC nt sC eC => ?_)
      have tD : t ≠ D := (ne_of_none hDB nt).symm
      have tp := LB.fresh nt
      wtm_at "s"
      refine k_ins (sC _ _ hDB) (by omega) (by omega) (by omega) ?_
      have wa := inm a am
      have wb := inm _ (List.getElem_mem hj)
      refine ⟨_, ws'.take r'.toNat ++ [(a, ms[j])] ++ ws'.drop r'.toNat, _, _, rfl, (LB.same sC).upd nD', by omega, same_hid_mut (SA.trans (SB.trans (hid_mono sC))) fr, ?_, upd_same, ?_, ?_, ?_⟩
      · rw [hid_upd (by simp)]
        exact MA.trans ((hid_more SB (by simp)).trans (hid_mono sC))
      · rw [hid_upd (by simp), List.map_append, List.map_append, List.map_take, List.map_drop]
        have hC := dpa_same (((hid_more SB (S' := [pu, D]) (by simp)).trans (hid_mono sC))) hysA
        refine dpa_app (dpa_app (dpa_take _ hC) (.cons (dp_of_pair (stp ?_)) .nil)) (dpa_drop _ hC)
        rw [hid_ne (not_in2 (fun e => tp (by simp [e])) tD)]; exact eC
      · rw [List.length_append, List.length_append, List.length_take, List.length_drop, List.length_singleton]
        omega
      · intro w hw
        rcases List.mem_append.mp hw with hw | hw
        · rcases List.mem_append.mp hw with hw | hw
          · exact hokA w (List.mem_of_mem_take hw)
          · rw [List.mem_singleton.mp hw]
            exact ⟨an, wa.1, wa.2, wb.1, wb.2⟩
        · exact hokA w (List.mem_of_mem_drop hw)
    · rintro σ' HA ⟨ys', ws', kk', k8, rfl, LA, hkA, SA, MA, hDA, hysA, hlA, hokA⟩
      exact ⟨ys', ws', kk', _, _, _, _, _, rfl, LA, by omega, SA, hDA, hysA, by omega, hokA⟩
  · rintro σ' H3 ⟨ys, ws, kk, k4, k5, k6, k7, k8, rfl, L3, hkk, S3, hD, hys, hl, hok⟩
    wtm_at "s"
    exact q D ys ws kk H3 nD nD' L3 (by omega) S3 hD hys (by omega) hok
abbrev sp_law_rounds (K : PySem.W.Frag) : Sp := fun vs H Q E => ∃ v0 v1 v2, vs = [v0, v1, v2] ∧ pr_law_rounds K v0 v1 v2 H Q E
theorem ok_law_rounds (T : Txt K mg A) : FnOk P w K mg base CX0 3 A.a_law_rounds A.d_law_rounds ["_law_left_here", "_law_many", "_law_most"] (sp_law_rounds K) := by
  refine T.F_law_rounds.ok sc_law_rounds (fun vs H Q E h => by obtain ⟨v0, v1, v2, rfl, _⟩ := h; rfl) (fun cdv A0 outer s H vs Q E hr h => ?_)
  obtain ⟨v0, v1, v2, rfl, h⟩ := h
  exact ⟨t_law_rounds K, (pss_cons (ps_set (i := 3) sc_law_rounds.nd rfl (Or.inl rfl) (pe_lst pa_nil))
      (pss_cons (ps_for PassesOwn.never rfl (pi_range1 (by rfl) T.z_range (pa_cons (pe_op op_add pe_int (pe_call (ok_law_draw (mg := mg) (base := base) T) (hr.mono (by decide)) (by rfl) T.g_law_draw T.F_law_draw.kp T.b_law_draw .nil pass0 (pa_cons (pv 0) (pa_cons (pv 2) pa_nil)))) pa_nil)) (pg_name (i := 4) sc_law_rounds.nd rfl (Or.inl rfl))
      (pss_cons (ps_set (i := 5) sc_law_rounds.nd rfl (Or.inl rfl) (pe_call (ok_law_draw (mg := mg) (base := base) T) (hr.mono (by decide)) (by rfl) T.g_law_draw T.F_law_draw.kp T.b_law_draw .nil pass0 (pa_cons (pv 0) (pa_cons (pv 1) pa_nil))))
      (pss_cons (ps_set (i := 6) sc_law_rounds.nd rfl (Or.inl rfl) (pe_op op_mod (pe_op op_add (pe_op op_add (pv 5) pe_int) (pe_call (ok_law_draw (mg := mg) (base := base) T) (hr.mono (by decide)) (by rfl) T.g_law_draw T.F_law_draw.kp T.b_law_draw .nil pass0 (pa_cons (pv 0) (pa_cons (pe_op op_sub (pv 1) pe_int) pa_nil)))) (pv 1)))
      (pss_cons (ps_set (i := 7) sc_law_rounds.nd rfl (Or.inl rfl) (pe_srtU (by rfl) (by rfl) T.z_sorted (by rfl) T.z_set (pe_lst (pa_cons (pv 5) (pa_cons (pv 6) (pa_cons (pe_call (ok_law_draw (mg := mg) (base := base) T) (hr.mono (by decide)) (by rfl) T.g_law_draw T.F_law_draw.kp T.b_law_draw .nil pass0 (pa_cons (pv 0) (pa_cons (pv 1) pa_nil))) (pa_cons (pe_call (ok_law_draw (mg := mg) (base := base) T) (hr.mono (by decide)) (by rfl) T.g_law_draw T.F_law_draw.kp T.b_law_draw .nil pass0 (pa_cons (pv 0) (pa_cons (pv 1) pa_nil))) pa_nil)))))))
      (pss_one (ps_for PassesOwn.never rfl (pi_range1 (by rfl) T.z_range (pa_cons (pe_callB q_len (by rfl) T.z_len (by decide +kernel) (pa_cons (pv 7) pa_nil)) pa_nil)) (pg_name (i := 8) sc_law_rounds.nd rfl (Or.inl rfl))
      (pss_one (ps_expr (pe_bm PySem.F.plainAttrs_list PySem.F.slot_list_insert PySem.F.type_list_insert mt_insert (pv 3) (pa_cons (pe_call (ok_law_draw (mg := mg) (base := base) T) (hr.mono (by decide)) (by rfl) T.g_law_draw T.F_law_draw.kp T.b_law_draw .nil pass0 (pa_cons (pv 0) (pa_cons (pe_op op_add (pe_callB q_len (by rfl) T.z_len (by decide +kernel) (pa_cons (pv 3) pa_nil)) pe_int) pa_nil))) (pa_cons (pe_tup (pa_cons (pe_ix ix_list (pv 7) (pe_op op_sub (pv 8) pe_int) (fun _ _ => rfl)) (pa_cons (pe_ix ix_list (pv 7) (pv 8) (fun _ _ => rfl)) pa_nil))) pa_nil)))))))))))
      (pss_one (ps_ret (pv 3))))), pure_law_rounds h⟩
def pr_law_ways (K : PySem.W.Frag) (v0 v1 : V) (H : Hp) (Q : VK) (_ : XK) : Prop := ∃ (pu : Addr) (k m : Int), v0 = .ref pu ∧ v1 = .int m ∧ Le H pu k ∧ k < 700000 ∧ 3 ≤ m ∧ m ≤ 60 ∧
  ∀ D ys ws kk H', H D = none → D ∉ [pu] → Le H' pu kk → kk ≤ k + 2000 → Same (hid [pu] H) (hid [pu] H') → H' D = some (.lst ys) → DpAll K (hid [pu, D] H') ys (List.map dPair ws) → ws.length ≤ 40 → (∀ w ∈ ws, WayIn m w) → Q (.ref D) H'
def t_law_ways (K : PySem.W.Frag) : TS :=
  (tSeq (tIfS (tTest (tOp rEq (tCall (sp_law_draw K) [] E0 (tCons (tVar 0) (tCons (tC (.int 3)) tNil))) (tC (.int 0)))) (tRet (tCall (sp_law_rounds K) [] E0 (tCons (tVar 0) (tCons (tVar 1) (tCons (tC (.int 10)) tNil))))) tNext)
    (tRet (tLc (iRng1 (tCons (tCall (sp_law_draw K) [] E0 (tCons (tVar 0) (tCons (tOp (rIxL K) (tLst (tCons (tC (.int 8)) (tCons (tC (.int 41)) tNil))) (tCall (sp_law_draw K) [] E0 (tCons (tVar 0) (tCons (tC (.int 2)) tNil)))) tNil))) tNil)) (gName 2) tYes (tCall (sp_law_way K) [] E0 (tCons (tVar 0) (tCons (tVar 1) tNil))) [2])))
theorem pure_law_ways {v0 v1 : V} {H : Hp} {Q : VK} {E : XK} (h : pr_law_ways K v0 v1 H Q E) : t_law_ways K ⟨fun _ H' => Q .non H', Q, fun _ _ => False, fun _ _ => False⟩ [some v0, some v1, none] H := by
  obtain ⟨pu, k, m, rfl, rfl, L, hk, m0, m1, q⟩ := h
  unfold t_law_ways
  wtm_at "s"
  refine ⟨_, _, rfl, pu, k, 3, rfl, rfl, L, by omega, by omega, by omega, fun r H1 r0 r1 L1 S1 => ?_⟩
  wtm_at "s"
  refine k_it (fun c => ?_) (fun c => ?_)
  · wtm_at "s"
    refine ⟨_, _, _, rfl, pu, k + 1, m, 10, rfl, rfl, rfl, L1, by omega, m0, m1, by decide, by decide, fun D ys ws kk H2 nD nD' L2 hkk S2 eD dys lw wok => ?_⟩
    exact q D ys ws kk H2 (fresh_hid S1 nD nD') nD' L2 (by omega) (S1.trans S2) eD dys (by omega) wok
  · refine k_next ?_
    refine k_ret (k_lc (k_iRng1 (k_cons ?_)))
    refine rd_pick (cs := [8, 41]) (hi := 41) rfl L1 (by omega) (fun H R h => by wtm_at "s"; exact h) (by decide) (by decide) (by decide) (by decide) (fun d H2 d0 d1 L2 S2 => ?_)
    wtm_at "s"
    refine lc_ways (m := m) (pu := pu) (fun _ => rfl) (fun _ => rfl) (fun _ => rfl) L2 (by omega) (by omega) (by omega) (by omega) (fun D ys ws H3 nD nD' L3 S3 eD dys lw wok => ?_)
    exact q D ys ws _ H3 (fresh_hid (S1.trans S2) nD nD') nD' L3 (by omega) (S1.trans (S2.trans S3)) eD dys (by omega) wok
abbrev sp_law_ways (K : PySem.W.Frag) : Sp := fun vs H Q E => ∃ v0 v1, vs = [v0, v1] ∧ pr_law_ways K v0 v1 H Q E
theorem ok_law_ways (T : Txt K mg A) : FnOk P w K mg base CX0 4 A.a_law_ways A.d_law_ways ["_law_left_here", "_law_many"] (sp_law_ways K) := by
  refine T.F_law_ways.ok sc_law_ways (fun vs H Q E h => by obtain ⟨v0, v1, rfl, _⟩ := h; rfl) (fun cdv A0 outer s H vs Q E hr h => ?_)
  obtain ⟨v0, v1, rfl, h⟩ := h
  exact ⟨t_law_ways K, (pss_cons (ps_if (pt_cmpR op_eq (pe_call (ok_law_draw (mg := mg) (base := base) T) (hr.mono (by decide)) (by rfl) T.g_law_draw T.F_law_draw.kp T.b_law_draw .nil pass0 (pa_cons (pv 0) (pa_cons pe_int pa_nil))) pe_int (nomark _)) (pss_one (ps_ret (pe_call (ok_law_rounds (mg := mg) (base := base) T) (hr.mono (by decide)) (by rfl) T.g_law_rounds T.F_law_rounds.kp T.b_law_rounds .nil pass0 (pa_cons (pv 0) (pa_cons (pv 1) (pa_cons pe_int pa_nil)))))) pss_nil)
      (pss_one (ps_ret (pe_lc (own := [("_law_k", 2)]) (by rfl) sc_law_ways.nd (pi_range1 (by rfl) T.z_range (pa_cons (pe_call (ok_law_draw (mg := mg) (base := base) T) (hr.mono (by decide)) (by rfl) T.g_law_draw T.F_law_draw.kp T.b_law_draw .nil pass0 (pa_cons (pv 0) (pa_cons (pe_ix ix_list (pe_lst (pa_cons pe_int (pa_cons pe_int pa_nil))) (pe_call (ok_law_draw (mg := mg) (base := base) T) (hr.mono (by decide)) (by rfl) T.g_law_draw T.F_law_draw.kp T.b_law_draw .nil pass0 (pa_cons (pv 0) (pa_cons pe_int pa_nil))) (fun _ _ => rfl)) pa_nil))) pa_nil)) (blkOk_by (own := [("_law_k", 2)]) (N := ["_law_left_here", "_law_many", "_law_k"]) (sc := defScope s_law_ways) (by decide +kernel)) (fun _ _ _ _ _ => (pg_name (i := 2) sc_law_ways.nd rfl (Or.inl rfl))) (fun _ _ _ _ _ => pts_nil) (fun _ _ _ _ _ => (pe_call (ok_law_way (mg := mg) (base := base) T) (hr.mono (by decide)) (by rfl) T.g_law_way T.F_law_way.kp T.b_law_way .nil pass0 (pa_cons (pv 0) (pa_cons (pv 1) pa_nil)))))))), pure_law_ways h⟩


def lawTies (n a b : Int) : List Int := (List.range ((b - a) % n).toNat).map fun k => (a + (k : Nat)) % n
def pr_law_ties (K : PySem.W.Frag) (v0 v1 : V) (H : Hp) (Q : VK) (_ : XK) : Prop := ∃ (n a b : Int), v0 = .int n ∧ 3 ≤ n ∧ n ≤ 60 ∧ Dp K H v1 (dPair (a, b)) ∧ ∀ p H', H p = none → Same H H' → H' p = some (.lst (List.map V.int (lawTies n a b))) → Q (.ref p) H'
def t_law_ties (K : PySem.W.Frag) : TS :=
  (tRet (tLc (iRng1 (tCons (tOp xMod (tOp xSub (tOp (rIxT K) (tVar 1) (tC (.int 1))) (tOp (rIxT K) (tVar 1) (tC (.int 0)))) (tVar 0)) tNil)) (gName 2) tYes (tOp xMod (tOp xAdd (tOp (rIxT K) (tVar 1) (tC (.int 0))) (tVar 2)) (tVar 0)) [2]))
theorem pure_law_ties {v0 v1 : V} {H : Hp} {Q : VK} {E : XK} (h : pr_law_ties K v0 v1 H Q E) : t_law_ties K ⟨fun _ H' => Q .non H', Q, fun _ _ => False, fun _ _ => False⟩ [some v0, some v1, none] H := by
  obtain ⟨n, a, b, rfl, n0, n1, hw, q⟩ := h
  obtain ⟨p, rfl, hp⟩ := dp_pair hw
  have m0 : 0 ≤ (b - a) % n := Int.emod_nonneg _ (by omega)
  have m1 : (b - a) % n < n := Int.emod_lt_of_pos _ (by omega)
  unfold t_law_ties
  wtm_at "s"
  generalize hmm : (b - a) % n = mm at m0 m1 ⊢
  wtm_at "s"
  refine lc_pureR (by omega) (fun i => some (V.int ((a + (i : Nat)) % n))) ?_ (fun D H' nD sm hD => ?_)
  · intro i H' hi sm R R0 h1 h2
    wtm_at "s"
    exact h1 _ (by rw [Int.zero_add])
  · refine q D H' nD sm ?_
    rw [hD]
    unfold lawTies
    rw [hmm, List.map_map]
    congr 2
    induction (List.range mm.toNat) with
    | nil => rfl
    | cons x r ih => rw [List.filterMap_cons, List.map_cons, ih]; rfl
abbrev sp_law_ties (K : PySem.W.Frag) : Sp := fun vs H Q E => ∃ v0 v1, vs = [v0, v1] ∧ pr_law_ties K v0 v1 H Q E
theorem ok_law_ties (T : Txt K mg A) : FnOk P w K mg base CX0 1 A.a_law_ties A.d_law_ties ["_law_many", "_law_way_here"] (sp_law_ties K) := by
  refine T.F_law_ties.ok sc_law_ties (fun vs H Q E h => by obtain ⟨v0, v1, rfl, _⟩ := h; rfl) (fun cdv A0 outer s H vs Q E hr h => ?_)
  obtain ⟨v0, v1, rfl, h⟩ := h
  exact ⟨t_law_ties K, (pss_one (ps_ret (pe_lc (own := [("_law_k", 2)]) (by rfl) sc_law_ties.nd (pi_range1 (by rfl) T.z_range (pa_cons (pe_op op_mod (pe_op op_sub (pe_ix ix_tup (pv 1) pe_int (fun _ _ => rfl)) (pe_ix ix_tup (pv 1) pe_int (fun _ _ => rfl))) (pv 0)) pa_nil)) (blkOk_by (own := [("_law_k", 2)]) (N := ["_law_many", "_law_way_here", "_law_k"]) (sc := defScope s_law_ties) (by decide +kernel)) (fun _ _ _ _ _ => (pg_name (i := 2) sc_law_ties.nd rfl (Or.inl rfl))) (fun _ _ _ _ _ => pts_nil) (fun _ _ _ _ _ => (pe_op op_mod (pe_op op_add (pe_ix ix_tup (pv 1) pe_int (fun _ _ => rfl)) (pv 2)) (pv 0)))))), pure_law_ties h⟩
theorem up_mod {n a t : Int} (a0 : 0 ≤ a) (a1 : a < n) (t0 : 0 ≤ t) (t1 : t < n) : (t - a) % n = up n a t := by
  unfold up
  split
  · exact Int.emod_eq_of_lt (by omega) (by omega)
  · rw [← Int.add_emod_right]
    exact Int.emod_eq_of_lt (by omega) (by omega)
theorem add_mod {n a k : Int} (a0 : 0 ≤ a) (a1 : a < n) (k0 : 0 ≤ k) (k1 : k < n) : (a + k) % n = if a + k < n then a + k else a + k - n := by
  split
  · exact Int.emod_eq_of_lt (by omega) (by omega)
  · rw [← Int.sub_emod_right]
    exact Int.emod_eq_of_lt (by omega) (by omega)
theorem cntV_ints (e : Int) : ∀ ns : List Int, cntV (.int e) (ns.map V.int) = ns.count e
  | [] => rfl
  | x :: r => by
    have := cntV_ints e r
    unfold cntV at this ⊢
    rw [List.map_cons, List.countP_cons, this, List.count_cons]
    rfl
theorem lawTies_cnt {n a b e : Int} (h : isWay (.ring n) a b) (e0 : 0 ≤ e) (e1 : e < n) : cntV (.int e) ((lawTies n a b).map V.int) = if OnTie (.ring n) a b e then 1 else 0 := by
  obtain ⟨w1, w2, w3, w4, w5⟩ := h
  have w4' : a < n := w4
  have w5' : b < n := w5
  rw [cntV_ints]
  have um := up_mod w2 w4' w3 w5'
  have u1 : up n a b < n := by unfold up; split <;> omega
  have u0 : 0 ≤ up n a b := by unfold up; split <;> omega
  have nd : (lawTies n a b).Nodup := by
    unfold lawTies
    rw [um]
    refine List.pairwise_map.mpr ((List.pairwise_lt_range).imp_of_mem fun {x y} hx hy hxy => ?_)
    have := List.mem_range.mp hx
    have := List.mem_range.mp hy
    rw [add_mod w2 w4' (by omega) (by omega), add_mod w2 w4' (by omega) (by omega)]
    split <;> split <;> omega
  have mem : e ∈ lawTies n a b ↔ OnTie (.ring n) a b e := by
    unfold lawTies
    rw [um, List.mem_map]
    show _ ↔ 0 ≤ e ∧ e < n ∧ up n a e < up n a b
    constructor
    · rintro ⟨k, hk, rfl⟩
      have := List.mem_range.mp hk
      rw [add_mod w2 w4' (by omega) (by omega)] at e0 e1 ⊢
      refine ⟨e0, e1, ?_⟩
      have e2 : up n a (if a + (k : Int) < n then a + k else a + k - n) = k := by
        unfold up
        split <;> split <;> omega
      rw [e2]; omega
    · rintro ⟨_, _, h⟩
      have g0 : 0 ≤ up n a e := by unfold up; split <;> omega
      refine ⟨(up n a e).toNat, List.mem_range.mpr (by omega), ?_⟩
      rw [add_mod w2 w4' (by omega) (by omega)]
      unfold up at *
      split at h <;> split <;> omega
  by_cases c : OnTie (.ring n) a b e
  · rw [if_pos c]
    exact Nat.le_antisymm (List.nodup_iff_count.mp nd e) (List.count_pos_iff.mpr (mem.mpr c))
  · rw [if_neg c]
    exact List.count_eq_zero_of_not_mem fun z => c (mem.mp z)
def pr_law_whole (K : PySem.W.Frag) (v0 : V) (H : Hp) (Q : VK) (_ : XK) : Prop := ∃ x : Int, v0 = .int x ∧ Q (.bl true) H
def t_law_whole (K : PySem.W.Frag) : TS :=
  (tRet (tAndV (tCB (rIsi K) (tCons (tVar 0) (tCons (tC (.ty "int")) tNil))) (tNotV (tCB (rIsi K) (tCons (tVar 0) (tCons (tC (.ty "bool")) tNil))))))
theorem pure_law_whole {v0 : V} {H : Hp} {Q : VK} {E : XK} (h : pr_law_whole K v0 H Q E) : t_law_whole K ⟨fun _ H' => Q .non H', Q, fun _ _ => False, fun _ _ => False⟩ [some v0] H := by
  obtain ⟨x, rfl, q⟩ := h
  unfold t_law_whole
  wtm_at "s"
  exact q
abbrev sp_law_whole (K : PySem.W.Frag) : Sp := fun vs H Q E => ∃ v0, vs = [v0] ∧ pr_law_whole K v0 H Q E
theorem ok_law_whole (T : Txt K mg A) : FnOk P w K mg base CX0 1 A.a_law_whole A.d_law_whole ["_law_found"] (sp_law_whole K) := by
  refine T.F_law_whole.ok sc_law_whole (fun vs H Q E h => by obtain ⟨v0, rfl, _⟩ := h; rfl) (fun cdv A0 outer s H vs Q E hr h => ?_)
  obtain ⟨v0, rfl, h⟩ := h
  exact ⟨t_law_whole K, (pss_one (ps_ret (pe_and (pe_callB q_isi (by rfl) T.z_isinstance (by decide +kernel) (pa_cons (pv 0) (pa_cons (pe_bltn (v := .ty "int") (by rfl) T.z_int (by decide +kernel) rfl) pa_nil))) (pe_one (pe_not (pe_callB q_isi (by rfl) T.z_isinstance (by decide +kernel) (pa_cons (pv 0) (pa_cons (pe_bltn (v := .ty "bool") (by rfl) T.z_bool (by decide +kernel) rfl) pa_nil)))))))), pure_law_whole h⟩


theorem lawTies_nd {n a b : Int} (h : isWay (.ring n) a b) : (lawTies n a b).Nodup := by
  obtain ⟨w1, w2, w3, w4, w5⟩ := h
  have w4' : a < n := w4
  have w5' : b < n := w5
  have um := up_mod w2 w4' w3 w5'
  have u1 : up n a b < n := by unfold up; split <;> omega
  have u0 : 0 ≤ up n a b := by unfold up; split <;> omega
  unfold lawTies
  rw [um]
  refine List.pairwise_map.mpr ((List.pairwise_lt_range).imp_of_mem fun {x y} hx hy hxy => ?_)
  have := List.mem_range.mp hx
  have := List.mem_range.mp hy
  rw [add_mod w2 w4' (by omega) (by omega), add_mod w2 w4' (by omega) (by omega)]
  split <;> split <;> omega
theorem lawTies_mem {n a b e : Int} (h : isWay (.ring n) a b) : e ∈ lawTies n a b ↔ OnTie (.ring n) a b e := by
  have n0 : 0 < n := by
    obtain ⟨_, h2, _, h4, _⟩ := h
    have h4 : a < n := h4
    omega
  by_cases c : 0 ≤ e ∧ e < n
  · have k := lawTies_cnt h c.1 c.2
    rw [cntV_ints] at k
    by_cases o : OnTie (.ring n) a b e
    · rw [if_pos o] at k
      exact ⟨fun _ => o, fun _ => List.count_pos_iff.mp (by omega)⟩
    · rw [if_neg o] at k
      exact ⟨fun z => by have := List.count_pos_iff.mpr z; omega, fun z => absurd z o⟩
  · constructor
    · intro z
      obtain ⟨k, _, rfl⟩ := List.mem_map.mp z
      exact absurd ⟨Int.emod_nonneg _ (by omega), Int.emod_lt_of_pos _ n0⟩ c
    · intro z
      exact absurd ⟨z.1, z.2.1⟩ c
theorem lawTies_len {n a b : Int} (n0 : 0 < n) : (lawTies n a b).length ≤ n.toNat := by
  unfold lawTies
  rw [List.length_map, List.length_range]
  have := Int.emod_lt_of_pos (b - a) n0
  omega
def pr_law_right (K : PySem.W.Frag) (v0 v1 v2 : V) (H : Hp) (Q : VK) (_ : XK) : Prop := ∃ (n : Int) (ws : List (Int × Int)) (z : Addr) (hs : List Int) (B : Int), v0 = .int n ∧ Dp K H v1 (dPairs ws) ∧ v2 = .ref z ∧ SqL K H z (hs.map V.int) ∧ RgOk n ws hs B ∧ (Net.ring n).ok ∧ (∀ w ∈ ws, isWay (.ring n) w.1 w.2) ∧ ws.length ≤ 40 ∧
  ∀ H', Same H H' → Q (.bl true) H'
def t_law_right (K : PySem.W.Frag) : TS :=
  (tSeq (tIfS (tOr (tNot (tB (tCB (rIsi K) (tCons (tVar 2) (tCons (tC (.ty "list")) tNil))))) (tTest (tOp rNe (tCB (rLenX K) (tCons (tVar 2) tNil)) (tCB (rLenX K) (tCons (tVar 1) tNil))))) (tRet (tC (.bl false))) tNext)
    (tSeq (tAsg (tLc (iList K (tVar 1)) (gName 6) tYes (tCall (sp_law_ties K) [] E0 (tCons (tVar 0) (tCons (tVar 6) tNil))) [6]) (gName 3))
    (tSeq (tFor (iRng1 (tCons (tCB (rLenX K) (tCons (tVar 1) tNil)) tNil)) (gName 4)
      (tSeq (tIfS (tOr (tNot (tB (tCall (sp_law_whole K) [] E0 (tCons (tOp (rIxL K) (tVar 2) (tVar 4)) tNil)))) (tTest (tOp xLt (tOp (rIxL K) (tVar 2) (tVar 4)) (tC (.int 0))))) (tRet (tC (.bl false))) tNext)
    (tFor (iRng1 (tCons (tVar 4) tNil)) (gName 5)
      (tIfS (tAnd (tTest (tOp rEq (tOp (rIxL K) (tVar 2) (tVar 4)) (tOp (rIxL K) (tVar 2) (tVar 5)))) (tTest (tOp xGt (tCB (rLenX K) (tCons (tLc (iList K (tOp (rIxL K) (tVar 3) (tVar 4))) (gName 7) (tTest (tOp (rIn K false) (tVar 7) (tOp (rIxL K) (tVar 3) (tVar 5)))) (tVar 7) [7]) tNil)) (tC (.int 0))))) (tRet (tC (.bl false))) tNext))))
    (tRet (tC (.bl true))))))
theorem pure_law_right {v0 v1 v2 : V} {H : Hp} {Q : VK} {E : XK} (h : pr_law_right K v0 v1 v2 H Q E) : t_law_right K ⟨fun _ H' => Q .non H', Q, fun _ _ => False, fun _ _ => False⟩ [some v0, some v1, some v2, none, none, none, none, none] H := by
  obtain ⟨n, ws, z, hs, B, rfl, d1, rfl, hz, good, ok, wok, lw, q⟩ := h
  obtain ⟨b, xs, rfl, hb, dxs⟩ := dp_list d1
  have lx : xs.length = ws.length := by rw [dpa_len dxs, List.length_map]
  have lh := good.len
  obtain ⟨n3, n60⟩ := (show 3 ≤ n ∧ n ≤ 60 from ok)
  unfold t_law_right
  wtm_at "s"
  refine lc_dp [] (fun b z => by cases z) hb ws lx (by omega) (fun w => dInts (lawTies n w.1 w.2)) ?_ (fun LA ys H2 nLA s2 eLA dLA => ?_) (fun x σ' H q q' h hh => h _ _ hh)
  · intro i x w H' hx hw sm R h1
    obtain ⟨w', c', hw', rfl, hc⟩ := dpairs_get dxs hx
    obtain rfl := Option.some.inj (hw'.symm.trans hw)
    wtm_at "s"
    refine ⟨_, _, rfl, n, w'.1, w'.2, rfl, n3, n60, dp_of_pair (same_seqT sm hc), fun p H3 np s3 ep => ?_⟩
    refine h1 _ _ s3 (fun S hS' => dp_of_ints (sl ?_))
    rw [hid_ne (fun z => hS' p z np), ep]
  have dL : Dp K H2 (.ref LA) (.list (ws.map fun w => dInts (lawTies n w.1 w.2))) := .lst (sl eLA) (dpa_same (hid_same _ _) dLA)
  clear dLA eLA nLA
  obtain ⟨_, zs, e, hlp, dzs⟩ := dp_list dL
  cases e
  have lz : zs.length = ws.length := by rw [dpa_len dzs, List.length_map]
  have zat : ∀ {j : Nat}, j < ws.length → ∃ zj, zs[j]? = some (.ref zj) ∧ SqL K H2 zj ((lawTies n (wD ws j).1 (wD ws j).2).map V.int) := fun {j} hj => by
    obtain ⟨v, hv, dv⟩ := dpa_get2 dzs (i := j) (d := dInts (lawTies n (wD ws j).1 (wD ws j).2)) (by rw [List.getElem?_map, List.getElem?_eq_getElem hj]; unfold wD; rw [List.getD_eq_getElem?_getD, List.getElem?_eq_getElem hj]; rfl)
    obtain ⟨z, rfl, hz'⟩ := dp_ints dv
    exact ⟨z, hv, hz'⟩
  have gat : ∀ {j : Nat}, j < ws.length → hs[j]? = some (hs.getD j (-1)) := fun {j} hj => by rw [List.getD_eq_getElem?_getD, List.getElem?_eq_getElem (by omega)]; rfl
  wtm_at "s"
  rw [lx]
  refine forR (fun i σ' H' => Same H H' ∧ Same H2 H' ∧ ∃ k4 k5, σ' = [some (.int n), some (.ref b), some (.ref z), some (.ref LA), k4, k5, none, none]) ⟨s2, Same.refl _, _, _, rfl⟩ ?_ ?_
  · rintro i σ' H3 hi ⟨s3, m3, k4, k5, rfl⟩
    have hi : i < ws.length := by omega
    have r := good.rg i hi
    rw [Int.zero_add]
    wtm_at "s"
    refine k_ixN (s3.seq hz) (gat hi) ?_
    wtm_at "s"
    refine ⟨_, rfl, _, rfl, ?_⟩
    wtm_at "s"
    refine k_ixN (s3.seq hz) (gat hi) ?_
    wtm_at "s"
    refine forR (fun j σ' H' => Same H H' ∧ Same H2 H' ∧ ∃ k5, σ' = [some (.int n), some (.ref b), some (.ref z), some (.ref LA), some (.int (i : Nat)), k5, none, none]) ⟨s3, m3, _, rfl⟩ ?_ ?_
    · rintro j σ' H4 hj ⟨s4, m4, k5, rfl⟩
      have hj : j < i := by omega
      rw [Int.zero_add]
      wtm_at "s"
      refine k_ixN (s4.seq hz) (gat hi) ?_
      wtm_at "s"
      refine k_ixN (s4.seq hz) (gat (by omega)) ?_
      wtm_at "s"
      refine k_it (fun c => ?_) (fun c => ?_)
      · obtain ⟨zi, hzi, ezi⟩ := zat hi
        obtain ⟨zj, hzj, ezj⟩ := zat (show j < ws.length by omega)
        have no : ∀ t, t ∈ lawTies n (wD ws i).1 (wD ws i).2 → t ∉ lawTies n (wD ws j).1 (wD ws j).2 := fun t t1 t2 => by
          have wi := wok _ (wD_mem hi)
          have wj := wok _ (wD_mem (show j < ws.length by omega))
          exact good.ap i j hi (by omega) (by omega) ((meet_iff ok wi wj).mpr ⟨t, (lawTies_mem wi).mp t1, (lawTies_mem wj).mp t2⟩) c
        wtm_at "s"
        refine k_ixL (m4.seq hlp) (atI_nat hzi) ?_
        have lt := lawTies_len (n := n) (a := (wD ws i).1) (b := (wD ws i).2) (by omega)
        refine lc_pure (m4.seq ezi) (lawTies n (wD ws i).1 (wD ws i).2) (by simp) (by omega) (fun _ => none) ?_ (fun D H5 nD s5 eD => ?_)
        · intro m x t H' hx ht sm R R0 g1 g2
          rw [List.getElem?_map, ht] at hx
          cases hx
          wtm_at "s"
          refine k_ixL ((m4.trans sm).seq hlp) (atI_nat hzj) ?_
          refine k_inI ((m4.trans sm).seq ezj) ?_
          rw [decide_eq_false (no t (List.mem_of_getElem? ht))]
          wtm_at "s"
          exact g2 rfl
        have eD : H5 D = some (.lst []) := by rw [eD]; simp
        wtm_at "s"
        exact ⟨s4.trans s5, m4.trans s5, _, rfl⟩
      · wtm_at "s"
        exact ⟨s4, m4, _, rfl⟩
    · rintro σ' H4 ⟨s4, m4, k5, rfl⟩
      exact ⟨s4, m4, _, _, rfl⟩
  · rintro σ' H3 ⟨s3, m3, k4, k5, rfl⟩
    wtm_at "s"
    exact q _ s3
abbrev sp_law_right (K : PySem.W.Frag) : Sp := fun vs H Q E => ∃ v0 v1 v2, vs = [v0, v1, v2] ∧ pr_law_right K v0 v1 v2 H Q E
theorem ok_law_right (T : Txt K mg A) : FnOk P w K mg base CX0 2 A.a_law_right A.d_law_right ["_law_many", "_law_ways_here", "_law_hues"] (sp_law_right K) := by
  refine T.F_law_right.ok sc_law_right (fun vs H Q E h => by obtain ⟨v0, v1, v2, rfl, _⟩ := h; rfl) (fun cdv A0 outer s H vs Q E hr h => ?_)
  obtain ⟨v0, v1, v2, rfl, h⟩ := h
  exact ⟨t_law_right K, (pss_cons (ps_if (PW.pt (pw_or (pt_not (pt_val (pe_callB q_isi (by rfl) T.z_isinstance (by decide +kernel) (pa_cons (pv 2) (pa_cons (pe_bltn (v := .ty "list") (by rfl) T.z_list (by decide +kernel) rfl) pa_nil))))) (pw_or1 (pt_cmpR op_ne (pe_callB q_len (by rfl) T.z_len (by decide +kernel) (pa_cons (pv 2) pa_nil)) (pe_callB q_len (by rfl) T.z_len (by decide +kernel) (pa_cons (pv 1) pa_nil)) (nomark _))))) (pss_one (ps_ret pe_bl)) pss_nil)
      (pss_cons (ps_set (i := 3) sc_law_right.nd rfl (Or.inr rfl) (pe_lc (own := [("_law_way_here", 6)]) (by rfl) sc_law_right.nd (pi_list (pv 1)) (blkOk_by (own := [("_law_way_here", 6)]) (N := ["_law_many", "_law_ways_here", "_law_hues", "_law_lain", "_law_one", "_law_other", "_law_way_here", "_law_tie"]) (sc := defScope s_law_right) (by decide +kernel)) (fun _ _ _ _ _ => (pg_name (i := 6) sc_law_right.nd rfl (Or.inl rfl))) (fun _ _ _ _ _ => pts_nil) (fun _ _ _ _ _ => (pe_call (ok_law_ties (mg := mg) (base := base) T) (hr.mono (by decide)) (by rfl) T.g_law_ties T.F_law_ties.kp T.b_law_ties .nil pass0 (pa_cons (pv 0) (pa_cons (pv 6) pa_nil))))))
      (pss_cons (ps_for PassesOwn.never rfl (pi_range1 (by rfl) T.z_range (pa_cons (pe_callB q_len (by rfl) T.z_len (by decide +kernel) (pa_cons (pv 1) pa_nil)) pa_nil)) (pg_name (i := 4) sc_law_right.nd rfl (Or.inl rfl))
      (pss_cons (ps_if (PW.pt (pw_or (pt_not (pt_val (pe_call (ok_law_whole (mg := mg) (base := base) T) (hr.mono (by decide)) (by rfl) T.g_law_whole T.F_law_whole.kp T.b_law_whole .nil pass0 (pa_cons (pe_ix ix_list (pv 2) (pv 4) (fun _ _ => rfl)) pa_nil)))) (pw_or1 (pt_cmpR op_lt (pe_ix ix_list (pv 2) (pv 4) (fun _ _ => rfl)) pe_int (nomark _))))) (pss_one (ps_ret pe_bl)) pss_nil)
      (pss_one (ps_for PassesOwn.never rfl (pi_range1 (by rfl) T.z_range (pa_cons (pv 4) pa_nil)) (pg_name (i := 5) sc_law_right.nd rfl (Or.inr rfl))
      (pss_one (ps_if (PW.pt (pw_and (pt_cmpR op_eq (pe_ix ix_list (pv 2) (pv 4) (fun _ _ => rfl)) (pe_ix ix_list (pv 2) (pv 5) (fun _ _ => rfl)) (nomark _)) (pw_and1 (pt_cmpR op_gt (pe_callB q_len (by rfl) T.z_len (by decide +kernel) (pa_cons (pe_lc (own := [("_law_tie", 7)]) (by rfl) sc_law_right.nd (pi_list (pe_ix ix_list (pv 3) (pv 4) (fun _ _ => rfl))) (blkOk_by (own := [("_law_tie", 7)]) (N := ["_law_many", "_law_ways_here", "_law_hues", "_law_lain", "_law_one", "_law_other", "_law_way_here", "_law_tie"]) (sc := defScope s_law_right) (by decide +kernel)) (fun _ _ _ _ _ => (pg_name (i := 7) sc_law_right.nd rfl (Or.inl rfl))) (fun _ _ _ _ _ => (pts_one (pt_cmpR op_in_seq (pv 7) (pe_ix ix_list (pv 3) (pv 5) (fun _ _ => rfl)) (by rfl)))) (fun _ _ _ _ _ => (pv 7))) pa_nil)) pe_int (nomark _))))) (pss_one (ps_ret pe_bl)) pss_nil))))))
      (pss_one (ps_ret pe_bl))))), pure_law_right h⟩


def pr_law_bound (K : PySem.W.Frag) (v0 v1 : V) (H : Hp) (Q : VK) (_ : XK) : Prop := ∃ (n : Int) (ws : List (Int × Int)), v0 = .int n ∧ (Net.ring n).ok ∧ Dp K H v1 (dPairs ws) ∧ ws.length ≤ 1000 ∧ (∀ w ∈ ws, isWay (.ring n) w.1 w.2) ∧
  ∀ mn mx H', Same H H' → mn ∈ loadsOf (.ring n) ws → (∀ y ∈ loadsOf (.ring n) ws, mn ≤ y) → mx ∈ loadsOf (.ring n) ws → (∀ y ∈ loadsOf (.ring n) ws, y ≤ mx) → Q (.int (if mn < mx then mx + mn else 2 * mx - 1)) H'
def t_law_bound (K : PySem.W.Frag) : TS :=
  (tSeq (tAsg (tOp rRep (tLst (tCons (tC (.int 0)) tNil)) (tVar 0)) (gName 2))
    (tSeq (tFor (iList K (tVar 1)) (gName 3)
      (tFor (iList K (tCall (sp_law_ties K) [] E0 (tCons (tVar 0) (tCons (tVar 3) tNil)))) (gName 4)
      (tAsg (tOp xAdd (tOp (rIxL K) (tVar 2) (tVar 4)) (tC (.int 1))) (gSub (tVar 2) (tVar 4) rSetL))))
    (tSeq (tIfS (tTest (tOp xLt (tCB (rMin K) (tCons (tVar 2) tNil)) (tCB (rMax K) (tCons (tVar 2) tNil)))) (tRet (tOp xAdd (tCB (rMax K) (tCons (tVar 2) tNil)) (tCB (rMin K) (tCons (tVar 2) tNil)))) tNext)
    (tRet (tOp xSub (tOp xMul (tC (.int 2)) (tCB (rMax K) (tCons (tVar 2) tNil))) (tC (.int 1)))))))
theorem pure_law_bound {v0 v1 : V} {H : Hp} {Q : VK} {E : XK} (h : pr_law_bound K v0 v1 H Q E) : t_law_bound K ⟨fun _ H' => Q .non H', Q, fun _ _ => False, fun _ _ => False⟩ [some v0, some v1, none, none, none] H := by
  obtain ⟨n, ws, rfl, ok, hw, hz, hok, q⟩ := h
  obtain ⟨b, xs, rfl, hb, hxs⟩ := dp_list hw
  have hl := dpa_len hxs
  rw [List.length_map] at hl
  have n3 : 3 ≤ n := ok.1
  have n60 : n ≤ 60 := ok.2
  unfold t_law_bound
  wtm_at "s"
  refine kL (by simp) (fun z0 H1 nz0 s1 e1 => ?_)
  wtm_at "s"
  refine k_repM e1 (by omega) (by omega) (by simp; omega) (fun fo H2 nfo s2 e2' => ?_)
  have e2 : H2 fo = some (.lst (List.map V.int (fl n.toNat fun t => (cnt (.ring n) (ws.take 0) (t : Nat) : Int)))) := by
    rw [e2']
    have : ∀ n' : Nat, (List.replicate n' [V.int 0]).flatten = List.map V.int (fl n' fun t => (cnt (.ring n) (ws.take 0) (t : Nat) : Int)) := fun n' => by
      unfold fl
      rw [List.map_map]
      apply List.ext_getElem
      · simp
      · intro i h1 h2
        simp [cnt]
    rw [this]
  have nfo0 : H fo = none := s1.free nfo
  have s02 := s1.trans s2
  clear s1 s2 e1 e2' nz0 nfo
  wtm_at "s"
  refine forL (s02.seq hb) (fun i σ' H' => Same H H' ∧ H' fo = some (.lst (List.map V.int (fl n.toNat fun t => (cnt (.ring n) (ws.take i) (t : Nat) : Int)))) ∧ ∃ k3 k4, σ' = [some (.int n), some (.ref b), some (.ref fo), k3, k4]) ⟨s02, e2, none, none, rfl⟩ (fun i σ' H' _ e => e.1.seq hb) ?_ ?_
  · rintro i x σ' H' hx ⟨sm, hf, k3, k4, rfl⟩
    obtain ⟨d, hd1, hd2⟩ := dpa_get hxs hx
    rw [List.getElem?_map] at hd1
    obtain ⟨w, hw1, rfl⟩ := Option.map_eq_some_iff.mp hd1
    have wok := hok w (List.mem_of_getElem? hw1)
    have ct := cnt_take (N := .ring n) hw1
    wtm_at "s"
    refine ⟨_, _, rfl, n, w.1, w.2, rfl, n3, n60, dp_same sm hd2, fun tl H3 ntl s3 htl => ?_⟩
    have ntf : tl ≠ fo := fun e => by rw [e, hf] at ntl; cases ntl
    have memT : ∀ t, t ∈ lawTies n w.1 w.2 ↔ OnTie (.ring n) w.1 w.2 t := fun t => lawTies_mem wok
    have inr : ∀ t ∈ lawTies n w.1 w.2, 0 ≤ t ∧ t < n.toNat := fun t ht => by have := (memT t).mp ht; exact ⟨this.1, by have := this.2.1; omega⟩
    have ndT : (lawTies n w.1 w.2).Nodup := lawTies_nd wok
    generalize lawTies n w.1 w.2 = ns at *
    refine forL (sl htl) (fun j σ' H' => Same H H' ∧ H' tl = some (.lst (List.map V.int ns)) ∧ H' fo = some (.lst (List.map V.int (fl n.toNat fun t => (cnt (.ring n) (ws.take i) (t : Nat) : Int) + if (t : Int) ∈ ns.take j then 1 else 0))) ∧ ∃ k4, σ' = [some (.int n), some (.ref b), some (.ref fo), some x, k4])
      ⟨sm.trans s3, htl, by rw [s3 _ _ hf]; simp, k4, rfl⟩ (fun i σ' H' _ e => sl e.2.1) ?_ ?_
    · rintro j y σ' H4 hy ⟨s4, htl4, hf4, k4, rfl⟩
      rw [List.getElem?_map] at hy
      obtain ⟨t, ht, rfl⟩ := Option.map_eq_some_iff.mp hy
      obtain ⟨r0, r1⟩ := inr t (List.mem_of_getElem? ht)
      wtm_at "s"
      refine k_ixI (sl hf4) r0 (by rw [fl_len]; exact r1) ?_
      wtm_at "s"
      refine k_setI hf4 r0 (by rw [fl_len]; exact r1) ?_
      rw [fl_get (by omega), fl_set]
      refine ⟨same_mut s4 nfo0, by rw [upd_ne ntf]; exact htl4, ?_, _, rfl⟩
      rw [upd_same]
      congr 3
      refine fl_congr fun s hs => ?_
      have nin : t ∉ ns.take j := fun z => by
        obtain ⟨m, hm, e⟩ := List.mem_take_iff_getElem.mp z
        obtain ⟨h1, e2⟩ := List.getElem?_eq_some_iff.mp ht
        have := (List.getElem_inj ndT).mp (e.trans e2.symm)
        omega
      rw [List.take_add_one, ht]
      by_cases c : s = t.toNat
      · subst c
        have et : ((t.toNat : Nat) : Int) = t := by omega
        rw [if_pos rfl, et, if_neg nin, if_pos (by simp)]
        omega
      · rw [if_neg c]
        congr 1
        by_cases d : (s : Int) ∈ ns.take j
        · rw [if_pos d, if_pos (by simp [d])]
        · rw [if_neg d, if_neg (by
            intro z
            rcases List.mem_append.mp z with z | z
            · exact d z
            · have : (s : Int) = t := by simpa using z
              omega)]
    · rintro σ' H4 ⟨s4, htl4, hf4, k4, rfl⟩
      refine ⟨s4, ?_, _, _, rfl⟩
      rw [hf4, List.length_map, List.take_length]
      congr 3
      refine fl_congr fun s hs => ?_
      rw [ct]
      by_cases d : (s : Int) ∈ ns
      · rw [if_pos d, if_pos ((memT _).mp d)]; omega
      · rw [if_neg d, if_neg (fun z => d ((memT _).mpr z))]; omega
  · rintro σ' H' ⟨sm, hf, k3, k4, rfl⟩
    rw [hl, List.take_length] at hf
    have hf : H' fo = some (.lst (List.map V.int (loadsOf (.ring n) ws))) := hf
    have lpos : 0 < (loadsOf (.ring n) ws).length := by
      unfold loadsOf
      rw [List.length_map, List.length_range]
      show 0 < n.toNat
      omega
    wtm_at "s"
    refine k_min (sl hf) lpos (fun mn a1 a2 => ?_)
    wtm_at "s"
    refine k_max (sl hf) lpos (fun mx a3 a4 => ?_)
    wtm_at "s"
    have mxb : mx ≤ 100000 := by
      obtain ⟨t, _, rfl⟩ := List.mem_map.mp a3
      have : cnt (.ring n) ws (t : Nat) ≤ ws.length := by unfold cnt; exact List.length_filter_le _ _
      omega
    refine k_it (fun c => ?_) (fun c => ?_)
    · wtm_at "s"
      refine k_max (sl hf) lpos (fun mx' b1 b2 => ?_)
      obtain rfl : mx' = mx := by have := a4 _ b1; have := b2 _ a3; omega
      wtm_at "s"
      refine k_min (sl hf) lpos (fun mn' b3 b4 => ?_)
      obtain rfl : mn' = mn := by have := a2 _ b3; have := b4 _ a1; omega
      wtm_at "s"
      have := q mn' mx' H' sm a1 a2 a3 a4
      rwa [if_pos c] at this
    · wtm_at "s"
      refine k_max (sl hf) lpos (fun mx' b1 b2 => ?_)
      obtain rfl : mx' = mx := by have := a4 _ b1; have := b2 _ a3; omega
      wtm_at "s"
      have := q mn mx' H' sm a1 a2 a3 a4
      rwa [if_neg c] at this
abbrev sp_law_bound (K : PySem.W.Frag) : Sp := fun vs H Q E => ∃ v0 v1, vs = [v0, v1] ∧ pr_law_bound K v0 v1 H Q E
theorem ok_law_bound (T : Txt K mg A) : FnOk P w K mg base CX0 2 A.a_law_bound A.d_law_bound ["_law_many", "_law_ways_here"] (sp_law_bound K) := by
  refine T.F_law_bound.ok sc_law_bound (fun vs H Q E h => by obtain ⟨v0, v1, rfl, _⟩ := h; rfl) (fun cdv A0 outer s H vs Q E hr h => ?_)
  obtain ⟨v0, v1, rfl, h⟩ := h
  exact ⟨t_law_bound K, (pss_cons (ps_set (i := 2) sc_law_bound.nd rfl (Or.inl rfl) (pe_op op_rep (pe_lst (pa_cons pe_int pa_nil)) (pv 0)))
      (pss_cons (ps_for PassesOwn.never rfl (pi_list (pv 1)) (pg_name (i := 3) sc_law_bound.nd rfl (Or.inl rfl))
      (pss_one (ps_for PassesOwn.never rfl (pi_list (pe_call (ok_law_ties (mg := mg) (base := base) T) (hr.mono (by decide)) (by rfl) T.g_law_ties T.F_law_ties.kp T.b_law_ties .nil pass0 (pa_cons (pv 0) (pa_cons (pv 3) pa_nil)))) (pg_name (i := 4) sc_law_bound.nd rfl (Or.inl rfl))
      (pss_one (ps_asg (pe_op op_add (pe_ix ix_list (pv 2) (pv 4) (fun _ _ => rfl)) pe_int) (pg_sub (pv 2) (pv 4) set_list))))))
      (pss_cons (ps_if (pt_cmpR op_lt (pe_callB (cr_min (by rfl)) (by rfl) T.z_min (by decide +kernel) (pa_cons (pv 2) pa_nil)) (pe_callB (cr_max (by rfl)) (by rfl) T.z_max (by decide +kernel) (pa_cons (pv 2) pa_nil)) (nomark _)) (pss_one (ps_ret (pe_op op_add (pe_callB (cr_max (by rfl)) (by rfl) T.z_max (by decide +kernel) (pa_cons (pv 2) pa_nil)) (pe_callB (cr_min (by rfl)) (by rfl) T.z_min (by decide +kernel) (pa_cons (pv 2) pa_nil))))) pss_nil)
      (pss_one (ps_ret (pe_op op_sub (pe_op op_mul pe_int (pe_callB (cr_max (by rfl)) (by rfl) T.z_max (by decide +kernel) (pa_cons (pv 2) pa_nil))) pe_int)))))), pure_law_bound h⟩


/-- the law's outer loop, where tables may be written -/
theorem law_frameT {BODY : TS} {c z : Int} {N : Nat} {m : Nat} {S : List Addr} {TT : Hp → Prop} {a : Addr} {ns : List Int} {H : Hp} {Q : VK} {n0 : L2.St → Hp → Prop} {bk ct : L2.St → Hp → Prop} (hz : z = N) (hn : ns.length ≤ 63) (ha : SqL K H a (ns.map V.int)) (q : ∀ H', Q (.bl true) H')
    (hT : TT H) (hS : ∀ b ∈ S, H b ≠ none) (up : ∀ H H', TT H → Same H H' → TT H')
    (body : ∀ (cell : Int) (l : List (Option V)) (H3 H4 : Hp) (nx : L2.St → Hp → Prop), l.length = m → Same (hid S H3) (hid S H4) → TT H4 → (∀ b ∈ S, H4 b ≠ none) →
      BODY ⟨fun σ' H' => Same (hid S H3) (hid S H') ∧ TT H' ∧ (∀ b ∈ S, H' b ≠ none) ∧ ∃ l' : List (Option V), l'.length = m + 1 ∧ σ' = some (.ref a) :: l', Q, nx, fun σ' H' => Same (hid S H3) (hid S H') ∧ TT H' ∧ (∀ b ∈ S, H' b ≠ none) ∧ ∃ l' : List (Option V), l'.length = m + 1 ∧ σ' = some (.ref a) :: l'⟩ (some (.ref a) :: some (.int cell) :: l) H4) :
    tSeq (tFor (iList K (tOp rCat (tLst (tCons (tC (.int c)) tNil)) (tSl (rSlL K) (tVar 0) tNoPart (tPart (tC (.int z)))))) (gName 1) BODY) (tRet (tC (.bl true))) ⟨n0, Q, bk, ct⟩ (some (.ref a) :: List.replicate (m + 1) none) H := by
  wtm_at "s"
  refine kL (by simp) (fun l1 H1 n1 s1 e1 => ?_)
  wtm_at "s"
  refine ⟨a, _, rfl, s1.seq ha, fun l2 n2 => ?_⟩
  rw [hz, cutTo N]
  have s2 := same_new (o := .lst ((ns.take N).map V.int)) n2
  have e2 := upd_same (H := H1) (a := l2) (o := .lst ((ns.take N).map V.int))
  generalize upd H1 l2 (.lst ((ns.take N).map V.int)) = H2 at s2 e2 ⊢
  refine k_cat (s2 _ _ e1) e2 (by simp; omega) (fun l3 n3 => ?_)
  have e3 : upd H2 l3 (.lst ([.int c] ++ (ns.take N).map V.int)) l3 = some (.lst ((c :: ns.take N).map V.int)) := upd_same
  have s3 := same_new (o := .lst ([.int c] ++ (ns.take N).map V.int)) n3
  have s02 := s1.trans s2
  have nl : l3 ∉ S := fun z => hS l3 z (s02.free n3)
  generalize upd H2 l3 (.lst ([.int c] ++ (ns.take N).map V.int)) = H3 at s3 e3 ⊢
  have s03 := s02.trans s3
  have hS3 : ∀ b ∈ S, H3 b ≠ none := fun b hb z => hS b hb (s03.free z)
  have e3h : hid S H3 l3 = some (.lst ((c :: ns.take N).map V.int)) := by rw [hid_ne nl]; exact e3
  wtm_at "s"
  refine forL (sl e3) (fun i σ' H' => Same (hid S H3) (hid S H') ∧ TT H' ∧ (∀ b ∈ S, H' b ≠ none) ∧ ∃ l' : List (Option V), l'.length = m + 1 ∧ σ' = some (.ref a) :: l') ⟨Same.refl _, up _ _ hT s03, hS3, List.replicate (m + 1) none, by simp, rfl⟩ (fun i σ' H' _ e => (e.1.trans (hid_same _ _)).seq (sl e3h)) ?_ ?_
  · rintro i x σ' H4 hx ⟨sm, t4, h4, l', hl', rfl⟩
    rw [List.getElem?_map] at hx
    obtain ⟨cell, _, rfl⟩ := Option.map_eq_some_iff.mp hx
    cases l' with
    | nil => simp at hl'
    | cons y l => exact body cell l H3 H4 _ (by simpa using hl') sm t4 h4
  · rintro σ' H' ⟨sm, t4, h4, l', hl', rfl⟩
    wtm_at "s"
    exact q _

def sp_law (K : PySem.W.Frag) (A : Ad) : Sp := fun vs H Q _ => ∃ (a : Addr) (ns : List Int), vs = [.ref a] ∧ SqL K H a (ns.map V.int) ∧ ns.length ≤ 63 ∧ TabsH A H ∧ ∀ H', Q (.bl true) H'
def t_law (K : PySem.W.Frag) (A : Ad) : TS :=
  (tSeq (tFor (iList K (tOp rCat (tLst (tCons (tC (.int 5)) tNil)) (tSl (rSlL K) (tVar 0) tNoPart (tPart (tC (.int 8)))))) (gName 1)
      (tSeq (tAsg (tCall (sp_law_left K) [] E0 (tCons (tVar 1) tNil)) (gName 2))
    (tSeq (tAsg (tOp xAdd (tC (.int 3)) (tCall (sp_law_draw K) [] E0 (tCons (tVar 2) (tCons (tOp (rIxL K) (tLst (tCons (tC (.int 4)) (tCons (tC (.int 10)) (tCons (tC (.int 58)) tNil)))) (tCall (sp_law_draw K) [] E0 (tCons (tVar 2) (tCons (tC (.int 3)) tNil)))) tNil)))) (gName 3))
    (tSeq (tAsg (tCall (sp_law_ways K) [] E0 (tCons (tVar 2) (tCons (tVar 3) tNil))) (gName 4))
    (tSeq (tAsg (tCB (rListOf K) (tCons (tVar 4) tNil)) (gName 5))
    (tSeq (tAsg (tC .non) (gName 6))
    (tFor (iRng1 (tCons (tC (.int 2)) tNil)) (gName 7)
      (tSeq (tAsg (tCall (sp_ring_hues K A) [] E0 (tCons (tTup (tCons (tC (.str (Str.ofString "ring"))) (tCons (tVar 3) tNil))) (tCons (tVar 5) tNil))) (gName 8))
    (tSeq (tIfS (tOr (tNot (tB (tCall (sp_law_right K) [] E0 (tCons (tVar 3) (tCons (tVar 4) (tCons (tVar 8) tNil)))))) (tOr (tTest (tOp (rNeD K) (tVar 5) (tVar 4))) (tAnd (tTest (tOp xNotN (tVar 6) (tC .non))) (tTest (tOp (rNeD K) (tVar 8) (tVar 6)))))) (tRet (tC (.bl false))) tNext)
    (tSeq (tIfS (tAnd (tTest (tOp (rNeD K) (tVar 4) (tLst tNil))) (tTest (tOp xGe (tCB (rMax K) (tCons (tVar 8) tNil)) (tCall (sp_law_bound K) [] E0 (tCons (tVar 3) (tCons (tVar 4) tNil)))))) (tRet (tC (.bl false))) tNext)
    (tSeq (tAsg (tCB (rListOf K) (tCons (tVar 8) tNil)) (gName 6))
    (tDrop (tBM K "list" rAppend (tVar 8) (tCons (tUn xNeg (tC (.int 1))) tNil))))))))))))))
    (tRet (tC (.bl true))))
theorem pure_law (T : Txt K mg A) {v0 : V} {H : Hp} {Q : VK} (h : ∃ (a : Addr) (ns : List Int), v0 = .ref a ∧ SqL K H a (ns.map V.int) ∧ ns.length ≤ 63 ∧ TabsH A H ∧ ∀ H', Q (.bl true) H') : t_law K A ⟨fun _ H' => Q .non H', Q, fun _ _ => False, fun _ _ => False⟩ [some v0, none, none, none, none, none, none, none, none] H := by
  obtain ⟨a, ns, rfl, ha, hz, tab, q⟩ := h
  unfold t_law
  refine law_frameT (S := [A.p_ring_hues]) (TT := fun H => TabsH A H) (m := 7) (N := 8) rfl hz ha q tab (fun b hb => ?_) (fun H H' t s => tab_same t s) ?_
  · rw [List.mem_singleton.mp hb]
    obtain ⟨ps, e, _⟩ := tab
    rw [e]; simp
  clear ha hz tab q H ns
  intro cell l H3 H4 nx hl sm tab hS
  match l, hl with
  | [k2, k3, k4, k5, k6, k7, k8], _ =>
  wtm_at "s"
  refine ⟨_, rfl, cell, rfl, fun pu H6 npu s6 L6 => ?_⟩
  have h0 : Same H4 (hid [pu] H6) := (hid_free1 npu).trans (hid_mono s6)
  refine k_gname (k_seq (k_asg (k_op (k_c ?_))))
  refine rd_pick (cs := [4, 10, 58]) (hi := 58) rfl L6 (by decide) (fun H R h => by wtm_at "s"; exact h) (by decide) (by decide) (by decide) (by decide) (fun d H7 d0 d1 L7 S7 => ?_)
  wtm_at "s"
  have n0 : 3 ≤ 3 + d := by omega
  have n1 : 3 + d ≤ 60 := by omega
  generalize 3 + d = n at n0 n1 ⊢
  wtm_at "s"
  refine ⟨_, _, rfl, pu, _, n, rfl, rfl, L7, by omega, n0, n1, fun D ys ws kk H8 nD nD' L8 hkk S8 eD dys lw wok => ?_⟩
  have wok' : ∀ w ∈ ws, isWay (.ring n) w.1 w.2 := fun w hw => by
    obtain ⟨h1, h2, h3, h4, h5⟩ := wok w hw
    exact ⟨h1, h2, h4, h3, h5⟩
  have ok : (Net.ring n).ok := ⟨n0, n1⟩
  have s48 : Same H4 H8 := h0.trans (S7.trans (S8.trans (hid_same _ _)))
  have dw : Dp K H8 (.ref D) (dPairs ws) := .lst (sl eD) (dpa_same (hid_same _ _) dys)
  have tab8 := tab_same tab s48
  have sm8 := sm.trans (hid_mono s48)
  have dys := dpa_same (hid_same _ _) dys
  clear L8 hkk S8 nD' nD L7 S7 d0 d1 h0 L6 s6 npu sm tab hS s48 wok
  wtm_at "s"
  refine k_listN (sl eD) (fun hd H9 nhd s9 e9 => ?_)
  have dh : Dp K H9 (.ref hd) (dPairs ws) := .lst (sl e9) (dpa_same s9 dys)
  have dw9 := dp_same s9 dw
  have tab9 := tab_same tab8 s9
  have sm9 := sm8.trans (hid_mono s9)
  have dhP := LxS.dp_tab tab9 dh
  have dwP := LxS.dp_tab tab9 dw9
  clear dh dw9 e9 nhd s9 dys eD tab8 sm8 dw
  wtm_at "s"
  refine forR (fun i σ' H' => Same (hid [A.p_ring_hues] H9) (hid [A.p_ring_hues] H') ∧ TabsH A H' ∧ ∃ v6 k7 k8, σ' = [some (.ref a), some (.int cell), some (.ref pu), some (.int n), some (.ref D), some (.ref hd), some v6, k7, k8] ∧
      (v6 = .non ∨ ∃ kp c mn mx, v6 = .ref kp ∧ (ws = [] ∨ CutAt n ws c mn mx) ∧ H' kp = some (.lst ((rgF n ws c).map V.int)))) ⟨Same.refl _, tab9, _, _, _, rfl, .inl rfl⟩ ?_ ?_
  · rintro i σ' HA hi ⟨SA, tabA, v6, k7, k8, rfl, hv6⟩
    rw [Int.zero_add]
    wtm_at "s"
    refine kT (by simp) (fun nt HB nnt sB eB => ?_)
    wtm_at "s"
    have SB := SA.trans (hid_mono sB)
    have tabB := tab_same tabA sB
    refine ⟨_, _, rfl, n, ws, .tup (stp eB) (.cons (.str _) (.cons (.int _) .nil)), ok, dp_same (SB.trans (hid_same _ _)) dhP, lw, wok', tabB, fun z c mn mx HC nz SC tabC ez cut => ?_⟩
    have SC' := SB.trans SC
    have good : RgOk n ws (rgF n ws c) (rgB mx.toNat mn.toNat) := by
      rcases cut with rfl | cut
      · exact ⟨rfl, (fun j hj => by cases hj), (fun i j hi => by cases hi)⟩
      · by_cases ne : ws = []
        · subst ne
          exact ⟨rfl, (fun j hj => by cases hj), (fun i j hi => by cases hi)⟩
        · exact rgF_ok ok wok' (cut.ok ne wok').1
    have nP : ∀ {H' : Hp} {x : Addr}, LamX.TabS H' A.p_ring_hues lq_ring_hues → H' x = none → x ∉ [A.p_ring_hues] := fun t e => by simpa using LxS.tab_ne t e
    have zP := nP tabB nz
    have nz9 : H9 z = none := fresh_hid SB nz zP
    have hv6 : v6 = .non ∨ ∃ kp c mn mx, v6 = .ref kp ∧ (ws = [] ∨ CutAt n ws c mn mx) ∧ HC kp = some (.lst ((rgF n ws c).map V.int)) ∧ kp ≠ z := by
      rcases hv6 with h | ⟨kp, c', mn', mx', e1, e2, e3⟩
      · exact .inl h
      · have e3B := sB _ _ e3
        have kz : kp ≠ z := ne_of_none e3B nz
        have kP : kp ∉ [A.p_ring_hues] := by
          obtain ⟨ps, e, _⟩ := tabB
          simpa using ne_of e3B e (by simp)
        exact .inr ⟨kp, c', mn', mx', e1, e2, keeps SC e3B kP, kz⟩
    clear sB nnt eB SB SC tabB SA tabA
    refine k_gname (seqO (fun σ' H' => Same HC H' ∧ σ' = [some (.ref a), some (.int cell), some (.ref pu), some (.int n), some (.ref D), some (.ref hd), some v6, some (.int (i : Nat)), some (.ref z)]) ?_ (fun nx1 go1 => ?_))
    rotate_left
    · wtm_at "s"
      refine ⟨_, _, _, rfl, n, ws, z, _, _, rfl, dp_same (SC'.trans (hid_same _ _)) dwP, rfl, sl ez, good, ok, wok', lw, fun HD sD => ?_⟩
      replace SC' := SC'.trans (hid_mono sD)
      have SD := SC'.trans (hid_same _ _)
      have ezD := sD _ _ ez
      wtm_at "s"
      refine k_neD0 (n := 2) (c := dPairs ws) (dp_same SD dhP) (dp_same SD dwP) (sh_pairs _) (by decide) ?_
      wtm_at "s"
      rcases hv6 with rfl | ⟨kp, c', mn', mx', rfl, e2, e3, _⟩
      · wtm_at "s"
        exact go1 _ _ ⟨sD, rfl⟩
      · have ec : rgF n ws c' = rgF n ws c := by
          by_cases ne : ws = []
          · subst ne; rfl
          · rw [((e2.resolve_left ne).one (cut.resolve_left ne)).1]
        rw [ec] at e3
        wtm_at "s"
        refine k_neD0 (n := 1) (c := dInts (rgF n ws c)) (dp_of_ints (sl ezD)) (dp_of_ints (sl (sD _ _ e3))) (sh_ints _) (by decide) ?_
        wtm_at "s"
        exact go1 _ _ ⟨sD, rfl⟩
    rintro σ' HD ⟨sD, rfl⟩
    refine (seqO (fun σ' H' => Same HC H' ∧ σ' = [some (.ref a), some (.int cell), some (.ref pu), some (.int n), some (.ref D), some (.ref hd), some v6, some (.int (i : Nat)), some (.ref z)]) ?_ (fun nx1 go1 => ?_))
    rotate_left
    · have SD := SC'.trans ((hid_mono sD).trans (hid_same _ _))
      wtm_at "s"
      refine kL (by simp) (fun e0 HE ne0 sE eE => ?_)
      have dE : Dp K HE (.ref e0) (.list []) := .lst (sl eE) .nil
      wtm_at "s"
      refine k_neD (n := 2) (c := dPairs ws) (d := .list []) (dp_same (SD.trans sE) dwP) dE (sh_pairs _) (sh_list fun d hd => by cases hd) (by decide) ?_
      by_cases ne : ws = []
      · subst ne
        wtm_at "s"
        exact go1 _ _ ⟨sD.trans sE, rfl⟩
      · obtain ⟨w0, r0, ew⟩ := List.exists_cons_of_ne_nil ne
        rw [show PyData.eqv (dPairs ws) (.list []) = false by rw [ew]; rfl]
        have lh := good.len
        have lpos : 0 < ws.length := by rw [ew]; simp
        wtm_at "s"
        refine k_max (sl ((sD.trans sE) _ _ ez)) (by omega) (fun M M1 _ => ?_)
        wtm_at "s"
        refine ⟨_, _, rfl, n, ws, rfl, ok, dp_same (SD.trans sE) dwP, by omega, wok', fun mn' mx' HF sF b1 b2 b3 b4 => ?_⟩
        obtain ⟨a1, a2, a3, a4, a5⟩ := cut.resolve_left ne
        obtain rfl : mn' = mn := by have := a2 _ b1; have := b2 _ a1; omega
        obtain rfl : mx' = mx := by have := a4 _ b3; have := b4 _ a3; omega
        have cok := (cut.resolve_left ne).ok ne wok'
        have hM : M ≤ rgB mx'.toNat mn'.toNat := by
          obtain ⟨j, hj, e⟩ := List.mem_iff_getElem.mp M1
          have := (good.rg j (by omega)).2
          rw [List.getD_eq_getElem?_getD, List.getElem?_eq_getElem hj] at this
          have e' : (some (rgF n ws c)[j]).getD (-1) = M := e
          rw [e'] at this
          exact this
        have lt : ¬ ((if mn' < mx' then mx' + mn' else 2 * mx' - 1) ≤ M) := by
          unfold rgB at hM
          have q0 := cok.2.1
          have q1 := cok.2.2
          split at hM <;> split <;> omega
        wtm_at "s"
        exact go1 _ _ ⟨sD.trans (sE.trans sF), rfl⟩
    rintro σ' HE ⟨sE, rfl⟩
    have SE := SC'.trans (hid_mono sE)
    have tabE := tab_same tabC sE
    have ezE := sE _ _ ez
    clear sD
    wtm_at "s"
    refine k_listN (sl ezE) (fun kp HF nkp sF ekp => ?_)
    wtm_at "s"
    refine k_tyL (sl (sF _ _ ezE)) ?_
    wtm_at "s"
    refine k_append (sF _ _ ezE) (by rw [List.length_map, good.len]; omega) ?_
    have kz : kp ≠ z := (ne_of_none ezE nkp).symm
    exact ⟨same_hid_mut (SE.trans (hid_mono sF)) (by rw [hid_ne zP]; exact nz9), LxS.tab_mut (tab_same tabE sF) (by simpa using zP) (sF _ _ ezE), _, _, _, rfl, .inr ⟨kp, c, mn, mx, rfl, cut, by rw [upd_ne kz]; exact ekp⟩⟩
  · rintro σ' HA ⟨SA, tabA, v6, k7, k8, rfl, hv6⟩
    exact ⟨sm9.trans SA, tabA, (fun b hb => by
      rw [List.mem_singleton.mp hb]
      obtain ⟨ps, e, _⟩ := tabA
      rw [e]; simp), _, by rfl, rfl⟩
theorem ok_law (T : Txt K mg A) : FnOk P w K mg base CX0 6 A.a_law A.d_law ["_law_script"] (sp_law K A) := by
  refine T.F_law.ok sc_law (fun vs H Q E h => by obtain ⟨a, ns, rfl, _⟩ := h; rfl) (fun cdv A0 outer s H vs Q E hr h => ?_)
  obtain ⟨a, ns, rfl, h⟩ := h
  exact ⟨t_law K A, (pss_cons (ps_for PassesOwn.never rfl (pi_list (pe_op op_cat (pe_lst (pa_cons pe_int pa_nil)) (pe_slice sl_list (pv 0) po_none (po_some pe_int)))) (pg_name (i := 1) sc_law.nd rfl (Or.inl rfl))
      (pss_cons (ps_set (i := 2) sc_law.nd rfl (Or.inl rfl) (pe_call (ok_law_left (mg := mg) (base := base) T) (hr.mono (by decide)) (by rfl) T.g_law_left T.F_law_left.kp T.b_law_left .nil pass0 (pa_cons (pv 1) pa_nil)))
      (pss_cons (ps_set (i := 3) sc_law.nd rfl (Or.inl rfl) (pe_op op_add pe_int (pe_call (ok_law_draw (mg := mg) (base := base) T) (hr.mono (by decide)) (by rfl) T.g_law_draw T.F_law_draw.kp T.b_law_draw .nil pass0 (pa_cons (pv 2) (pa_cons (pe_ix ix_list (pe_lst (pa_cons pe_int (pa_cons pe_int (pa_cons pe_int pa_nil)))) (pe_call (ok_law_draw (mg := mg) (base := base) T) (hr.mono (by decide)) (by rfl) T.g_law_draw T.F_law_draw.kp T.b_law_draw .nil pass0 (pa_cons (pv 2) (pa_cons pe_int pa_nil))) (fun _ _ => rfl)) pa_nil)))))
      (pss_cons (ps_set (i := 4) sc_law.nd rfl (Or.inl rfl) (pe_call (ok_law_ways (mg := mg) (base := base) T) (hr.mono (by decide)) (by rfl) T.g_law_ways T.F_law_ways.kp T.b_law_ways .nil pass0 (pa_cons (pv 2) (pa_cons (pv 3) pa_nil))))
      (pss_cons (ps_set (i := 5) sc_law.nd rfl (Or.inl rfl) (pe_callTy q_listOf (by rfl) T.z_list (by decide +kernel) (pa_cons (pv 4) pa_nil)))
      (pss_cons (ps_set (i := 6) sc_law.nd rfl (Or.inl rfl) pe_non)
      (pss_one (ps_for PassesOwn.never rfl (pi_range1 (by rfl) T.z_range (pa_cons pe_int pa_nil)) (pg_name (i := 7) sc_law.nd rfl (Or.inl rfl))
      (pss_cons (ps_set (i := 8) sc_law.nd rfl (Or.inl rfl) (pe_call (ok_ring_hues (mg := mg) (base := base) T) (hr.mono (by decide)) (by rfl) T.g_ring_hues T.F_ring_hues.kp T.b_ring_hues .nil pass0 (pa_cons (pe_tup (pa_cons pe_str (pa_cons (pv 3) pa_nil))) (pa_cons (pv 5) pa_nil))))
      (pss_cons (ps_if (PW.pt (pw_or (pt_not (pt_val (pe_call (ok_law_right (mg := mg) (base := base) T) (hr.mono (by decide)) (by rfl) T.g_law_right T.F_law_right.kp T.b_law_right .nil pass0 (pa_cons (pv 3) (pa_cons (pv 4) (pa_cons (pv 8) pa_nil)))))) (pw_or (pt_cmpR (op_neD hr.units) (pv 5) (pv 4) (nomark _)) (pw_or1 (PW.pt (pw_and (pt_cmpR op_notN (pv 6) pe_non (nomark _)) (pw_and1 (pt_cmpR (op_neD hr.units) (pv 8) (pv 6) (nomark _))))))))) (pss_one (ps_ret pe_bl)) pss_nil)
      (pss_cons (ps_if (PW.pt (pw_and (pt_cmpR (op_neD hr.units) (pv 4) (pe_lst pa_nil) (nomark _)) (pw_and1 (pt_cmpR op_ge (pe_callB (cr_max (by rfl)) (by rfl) T.z_max (by decide +kernel) (pa_cons (pv 8) pa_nil)) (pe_call (ok_law_bound (mg := mg) (base := base) T) (hr.mono (by decide)) (by rfl) T.g_law_bound T.F_law_bound.kp T.b_law_bound .nil pass0 (pa_cons (pv 3) (pa_cons (pv 4) pa_nil))) (nomark _))))) (pss_one (ps_ret pe_bl)) pss_nil)
      (pss_cons (ps_set (i := 6) sc_law.nd rfl (Or.inl rfl) (pe_callTy q_listOf (by rfl) T.z_list (by decide +kernel) (pa_cons (pv 8) pa_nil)))
      (pss_one (ps_expr (pe_bm PySem.F.plainAttrs_list PySem.F.slot_list_append PySem.F.type_list_append mt_append (pv 8) (pa_cons (pe_un un_neg pe_int) pa_nil))))))))))))))))
      (pss_one (ps_ret pe_bl))), pure_law T ⟨a, ns, rfl, h⟩⟩

theorem all_mk {l : PySem.W.OpenLaw} {w : World} {K : PySem.W.Frag} {h : Heap} {mg : Str → Option Value} {fa : Addr} {f0 f1 f2 f3 f4 f5 f6 f7 f8 f9 f10 f11 f12 f13 f14 f15 f16 f17 f18 f19 f20 f21 f22 f23 f24 : Addr} (X : K.In h) (G : h.Ns mainGlobals mg) (hfa : mg "law" = some (.ref fa))
    {lc13 : Addr} {od0 an0 od1 an1 od2 an2 od3 an3 od4 an4 od5 an5 od6 an6 od7 an7 od8 an8 od9 an9 od10 an10 od11 an11 od12 an12 od13 an13 od14 an14 od15 an15 od16 an16 od17 an17 od18 an18 od19 an19 od20 an20 od21 an21 od22 an22 od23 an23 od24 an24 : Option Addr} {sl0 sl1 sl2 sl3 sl4 sl5 sl6 sl7 sl8 sl9 sl10 sl11 sl12 sl13 sl14 sl15 sl16 sl17 sl18 sl19 sl20 sl21 sl22 sl23 sl24 : Array (Option Value)} {oc0 kV0 dc0 pm0 cd0 ct0 oc1 kV1 dc1 pm1 cd1 ct1 oc2 kV2 dc2 pm2 cd2 ct2 oc3 kV3 dc3 pm3 cd3 ct3 oc4 kV4 dc4 pm4 cd4 ct4 oc5 kV5 dc5 pm5 cd5 ct5 oc6 kV6 dc6 pm6 cd6 ct6 oc7 kV7 dc7 pm7 cd7 ct7 oc8 kV8 dc8 pm8 cd8 ct8 oc9 kV9 dc9 pm9 cd9 ct9 oc10 kV10 dc10 pm10 cd10 ct10 oc11 kV11 dc11 pm11 cd11 ct11 oc12 kV12 dc12 pm12 cd12 ct12 oc13 kV13 dc13 pm13 ct13 oc14 kV14 dc14 pm14 cd14 ct14 oc15 kV15 dc15 pm15 cd15 ct15 oc16 kV16 dc16 pm16 cd16 ct16 oc17 kV17 dc17 pm17 cd17 ct17 oc18 kV18 dc18 pm18 cd18 ct18 oc19 kV19 dc19 pm19 cd19 ct19 oc20 kV20 dc20 pm20 cd20 ct20 oc21 kV21 dc21 pm21 cd21 ct21 oc22 kV22 dc22 pm22 cd22 ct22 oc23 kV23 dc23 pm23 cd23 ct23 oc24 kV24 dc24 pm24 cd24 ct24 : Value}
    {tk0 : Tok}
    (a0 : PySem.W.nsIn K mainGlobals "is_tree" = some (some (.ref f0))) (l0 : K.lookup f0 = some ⟨oc0, od0, .func (PySem.W.fnOf "is_tree" "is_tree" (defArgs s_is_tree) (defBody s_is_tree) (defScope s_is_tree) .none kV0 dc0 pm0 an0 cd0 ct0), sl0⟩) (c0 : PySem.W.codeIn K cd0 "is_tree" = true) (k0 : PySem.W.keepIn K (.ref f0) = true)
    (a1 : PySem.W.nsIn K mainGlobals "look_net" = some (some (.ref f1))) (l1 : K.lookup f1 = some ⟨oc1, od1, .func (PySem.W.fnOf "look_net" "look_net" (defArgs s_look_net) (defBody s_look_net) (defScope s_look_net) .none kV1 dc1 pm1 an1 cd1 ct1), sl1⟩) (c1 : PySem.W.codeIn K cd1 "look_net" = true) (k1 : PySem.W.keepIn K (.ref f1) = true)
    (a2 : PySem.W.nsIn K mainGlobals "must_be_kind" = some (some (.ref f2))) (l2 : K.lookup f2 = some ⟨oc2, od2, .func (PySem.W.fnOf "must_be_kind" "must_be_kind" (defArgs s_must_be_kind) (defBody s_must_be_kind) (defScope s_must_be_kind) .none kV2 dc2 pm2 an2 cd2 ct2), sl2⟩) (c2 : PySem.W.codeIn K cd2 "must_be_kind" = true) (k2 : PySem.W.keepIn K (.ref f2) = true)
    (a3 : PySem.W.nsIn K mainGlobals "places_of" = some (some (.ref f3))) (l3 : K.lookup f3 = some ⟨oc3, od3, .func (PySem.W.fnOf "places_of" "places_of" (defArgs s_places_of) (defBody s_places_of) (defScope s_places_of) .none kV3 dc3 pm3 an3 cd3 ct3), sl3⟩) (c3 : PySem.W.codeIn K cd3 "places_of" = true) (k3 : PySem.W.keepIn K (.ref f3) = true)
    (a4 : PySem.W.nsIn K mainGlobals "ties_many" = some (some (.ref f4))) (l4 : K.lookup f4 = some ⟨oc4, od4, .func (PySem.W.fnOf "ties_many" "ties_many" (defArgs s_ties_many) (defBody s_ties_many) (defScope s_ties_many) .none kV4 dc4 pm4 an4 cd4 ct4), sl4⟩) (c4 : PySem.W.codeIn K cd4 "ties_many" = true) (k4 : PySem.W.keepIn K (.ref f4) = true)
    (a5 : PySem.W.nsIn K mainGlobals "is_way" = some (some (.ref f5))) (l5 : K.lookup f5 = some ⟨oc5, od5, .func (PySem.W.fnOf "is_way" "is_way" (defArgs s_is_way) (defBody s_is_way) (defScope s_is_way) .none kV5 dc5 pm5 an5 cd5 ct5), sl5⟩) (c5 : PySem.W.codeIn K cd5 "is_way" = true) (k5 : PySem.W.keepIn K (.ref f5) = true)
    (a6 : PySem.W.nsIn K mainGlobals "ties_on" = some (some (.ref f6))) (l6 : K.lookup f6 = some ⟨oc6, od6, .func (PySem.W.fnOf "ties_on" "ties_on" (defArgs s_ties_on) (defBody s_ties_on) (defScope s_ties_on) .none kV6 dc6 pm6 an6 cd6 ct6), sl6⟩) (c6 : PySem.W.codeIn K cd6 "ties_on" = true) (k6 : PySem.W.keepIn K (.ref f6) = true)
    (a7 : PySem.W.nsIn K mainGlobals "must_be_ways" = some (some (.ref f7))) (l7 : K.lookup f7 = some ⟨oc7, od7, .func (PySem.W.fnOf "must_be_ways" "must_be_ways" (defArgs s_must_be_ways) (defBody s_must_be_ways) (defScope s_must_be_ways) .none kV7 dc7 pm7 an7 cd7 ct7), sl7⟩) (c7 : PySem.W.codeIn K cd7 "must_be_ways" = true) (k7 : PySem.W.keepIn K (.ref f7) = true)
    (a8 : PySem.W.nsIn K mainGlobals "look_ways" = some (some (.ref f8))) (l8 : K.lookup f8 = some ⟨oc8, od8, .func (PySem.W.fnOf "look_ways" "look_ways" (defArgs s_look_ways) (defBody s_look_ways) (defScope s_look_ways) .none kV8 dc8 pm8 an8 cd8 ct8), sl8⟩) (c8 : PySem.W.codeIn K cd8 "look_ways" = true) (k8 : PySem.W.keepIn K (.ref f8) = true)
    (a9 : PySem.W.nsIn K mainGlobals "look_ring" = some (some (.ref f9))) (l9 : K.lookup f9 = some ⟨oc9, od9, .func (PySem.W.fnOf "look_ring" "look_ring" (defArgs s_look_ring) (defBody s_look_ring) (defScope s_look_ring) .none kV9 dc9 pm9 an9 cd9 ct9), sl9⟩) (c9 : PySem.W.codeIn K cd9 "look_ring" = true) (k9 : PySem.W.keepIn K (.ref f9) = true)
    (a10 : PySem.W.nsIn K mainGlobals "counted" = some (some (.ref f10))) (l10 : K.lookup f10 = some ⟨oc10, od10, .func (PySem.W.fnOf "counted" "counted" (defArgs s_counted) (defBody s_counted) (defScope s_counted) .none kV10 dc10 pm10 an10 cd10 ct10), sl10⟩) (c10 : PySem.W.codeIn K cd10 "counted" = true) (k10 : PySem.W.keepIn K (.ref f10) = true)
    (a11 : PySem.W.nsIn K mainGlobals "have_common" = some (some (.ref f11))) (l11 : K.lookup f11 = some ⟨oc11, od11, .func (PySem.W.fnOf "have_common" "have_common" (defArgs s_have_common) (defBody s_have_common) (defScope s_have_common) .none kV11 dc11 pm11 an11 cd11 ct11), sl11⟩) (c11 : PySem.W.codeIn K cd11 "have_common" = true) (k11 : PySem.W.keepIn K (.ref f11) = true)
    (a12 : PySem.W.nsIn K mainGlobals "cut_at" = some (some (.ref f12))) (l12 : K.lookup f12 = some ⟨oc12, od12, .func (PySem.W.fnOf "cut_at" "cut_at" (defArgs s_cut_at) (defBody s_cut_at) (defScope s_cut_at) .none kV12 dc12 pm12 an12 cd12 ct12), sl12⟩) (c12 : PySem.W.codeIn K cd12 "cut_at" = true) (k12 : PySem.W.keepIn K (.ref f12) = true)
    (a13 : PySem.W.nsIn K mainGlobals "ring_hues" = some (some (.ref f13))) (l13 : K.lookup f13 = some ⟨oc13, od13, .func (PySem.W.fnOf "ring_hues" "ring_hues" (defArgs s_ring_hues) (defBody s_ring_hues) (defScope s_ring_hues) .none kV13 dc13 pm13 an13 (.ref lc13) ct13), sl13⟩) (c13 : PySem.W.codeIn K (.ref lc13) "ring_hues" = true) (k13 : PySem.W.keepIn K (.ref f13) = true)
    (a14 : PySem.W.nsIn K mainGlobals "_law_mix" = some (some (.ref f14))) (l14 : K.lookup f14 = some ⟨oc14, od14, .func (PySem.W.fnOf "_law_mix" "_law_mix" (defArgs s_law_mix) (defBody s_law_mix) (defScope s_law_mix) .none kV14 dc14 pm14 an14 cd14 ct14), sl14⟩) (c14 : PySem.W.codeIn K cd14 "_law_mix" = true) (k14 : PySem.W.keepIn K (.ref f14) = true)
    (a15 : PySem.W.nsIn K mainGlobals "_law_left" = some (some (.ref f15))) (l15 : K.lookup f15 = some ⟨oc15, od15, .func (PySem.W.fnOf "_law_left" "_law_left" (defArgs s_law_left) (defBody s_law_left) (defScope s_law_left) .none kV15 dc15 pm15 an15 cd15 ct15), sl15⟩) (c15 : PySem.W.codeIn K cd15 "_law_left" = true) (k15 : PySem.W.keepIn K (.ref f15) = true)
    (a16 : PySem.W.nsIn K mainGlobals "_law_draw" = some (some (.ref f16))) (l16 : K.lookup f16 = some ⟨oc16, od16, .func (PySem.W.fnOf "_law_draw" "_law_draw" (defArgs s_law_draw) (defBody s_law_draw) (defScope s_law_draw) .none kV16 dc16 pm16 an16 cd16 ct16), sl16⟩) (c16 : PySem.W.codeIn K cd16 "_law_draw" = true) (k16 : PySem.W.keepIn K (.ref f16) = true)
    (a17 : PySem.W.nsIn K mainGlobals "_law_whole" = some (some (.ref f17))) (l17 : K.lookup f17 = some ⟨oc17, od17, .func (PySem.W.fnOf "_law_whole" "_law_whole" (defArgs s_law_whole) (defBody s_law_whole) (defScope s_law_whole) .none kV17 dc17 pm17 an17 cd17 ct17), sl17⟩) (c17 : PySem.W.codeIn K cd17 "_law_whole" = true) (k17 : PySem.W.keepIn K (.ref f17) = true)
    (a18 : PySem.W.nsIn K mainGlobals "_law_way" = some (some (.ref f18))) (l18 : K.lookup f18 = some ⟨oc18, od18, .func (PySem.W.fnOf "_law_way" "_law_way" (defArgs s_law_way) (defBody s_law_way) (defScope s_law_way) .none kV18 dc18 pm18 an18 cd18 ct18), sl18⟩) (c18 : PySem.W.codeIn K cd18 "_law_way" = true) (k18 : PySem.W.keepIn K (.ref f18) = true)
    (a19 : PySem.W.nsIn K mainGlobals "_law_ties" = some (some (.ref f19))) (l19 : K.lookup f19 = some ⟨oc19, od19, .func (PySem.W.fnOf "_law_ties" "_law_ties" (defArgs s_law_ties) (defBody s_law_ties) (defScope s_law_ties) .none kV19 dc19 pm19 an19 cd19 ct19), sl19⟩) (c19 : PySem.W.codeIn K cd19 "_law_ties" = true) (k19 : PySem.W.keepIn K (.ref f19) = true)
    (a20 : PySem.W.nsIn K mainGlobals "_law_rounds" = some (some (.ref f20))) (l20 : K.lookup f20 = some ⟨oc20, od20, .func (PySem.W.fnOf "_law_rounds" "_law_rounds" (defArgs s_law_rounds) (defBody s_law_rounds) (defScope s_law_rounds) .none kV20 dc20 pm20 an20 cd20 ct20), sl20⟩) (c20 : PySem.W.codeIn K cd20 "_law_rounds" = true) (k20 : PySem.W.keepIn K (.ref f20) = true)
    (a21 : PySem.W.nsIn K mainGlobals "_law_ways" = some (some (.ref f21))) (l21 : K.lookup f21 = some ⟨oc21, od21, .func (PySem.W.fnOf "_law_ways" "_law_ways" (defArgs s_law_ways) (defBody s_law_ways) (defScope s_law_ways) .none kV21 dc21 pm21 an21 cd21 ct21), sl21⟩) (c21 : PySem.W.codeIn K cd21 "_law_ways" = true) (k21 : PySem.W.keepIn K (.ref f21) = true)
    (a22 : PySem.W.nsIn K mainGlobals "_law_right" = some (some (.ref f22))) (l22 : K.lookup f22 = some ⟨oc22, od22, .func (PySem.W.fnOf "_law_right" "_law_right" (defArgs s_law_right) (defBody s_law_right) (defScope s_law_right) .none kV22 dc22 pm22 an22 cd22 ct22), sl22⟩) (c22 : PySem.W.codeIn K cd22 "_law_right" = true) (k22 : PySem.W.keepIn K (.ref f22) = true)
    (a23 : PySem.W.nsIn K mainGlobals "_law_bound" = some (some (.ref f23))) (l23 : K.lookup f23 = some ⟨oc23, od23, .func (PySem.W.fnOf "_law_bound" "_law_bound" (defArgs s_law_bound) (defBody s_law_bound) (defScope s_law_bound) .none kV23 dc23 pm23 an23 cd23 ct23), sl23⟩) (c23 : PySem.W.codeIn K cd23 "_law_bound" = true) (k23 : PySem.W.keepIn K (.ref f23) = true)
    (a24 : PySem.W.nsIn K mainGlobals "law" = some (some (.ref f24))) (l24 : K.lookup f24 = some ⟨oc24, od24, .func (PySem.W.fnOf "law" "law" (defArgs s_law) (defBody s_law) (defScope s_law) .none kV24 dc24 pm24 an24 cd24 ct24), sl24⟩) (c24 : PySem.W.codeIn K cd24 "law" = true) (k24 : PySem.W.keepIn K (.ref f24) = true)
    (e0 : PySem.W.nsIn K mainGlobals "MOST_PLACES" = some (some (.int 60 tk0)))
    (z0 : PySem.W.nsIn K mainGlobals "bool" = some none)
    (z1 : PySem.W.nsIn K mainGlobals "int" = some none)
    (z2 : PySem.W.nsIn K mainGlobals "isinstance" = some none)
    (z3 : PySem.W.nsIn K mainGlobals "len" = some none)
    (z4 : PySem.W.nsIn K mainGlobals "list" = some none)
    (z5 : PySem.W.nsIn K mainGlobals "max" = some none)
    (z6 : PySem.W.nsIn K mainGlobals "min" = some none)
    (z7 : PySem.W.nsIn K mainGlobals "range" = some none)
    (z8 : PySem.W.nsIn K mainGlobals "set" = some none)
    (z9 : PySem.W.nsIn K mainGlobals "sorted" = some none)
    {lp13 : Addr} {lo13 : Option Addr} {lv13 : Array Value} {ls13 : Array (Option Value)} (lk13 : K.lookup lc13 = some ⟨.type "code", lo13, .fields lv13, ls13⟩) (lw13 : lv13[11]? = some (.ref lp13)) (lh13 : PySem.W.codeHdIn K lc13 lp13 = true) (ln13 : K.lookup lp13 = none) (lt13 : h.get? lp13 = some (PySem.W.tabObj #[]))
    : LamX.LawAtS l w K CX0 6 63 "_law_script" mg fa h := by
  have e := hfa.symm.trans (PySem.W.mg_of X G a24)
  cases e
  have F0 := fun_mk (st := s_is_tree) l0 c0 k0
  have b0 := F0.binds (ps := ["parents"]) fun _ _ _ _ _ _ us hl => match us, hl with | [_], _ => rfl
  have F1 := fun_mk (st := s_look_net) l1 c1 k1
  have b1 := F1.binds (ps := ["net"]) fun _ _ _ _ _ _ us hl => match us, hl with | [_], _ => rfl
  have F2 := fun_mk (st := s_must_be_kind) l2 c2 k2
  have b2 := F2.binds (ps := ["net", "kind"]) fun _ _ _ _ _ _ us hl => match us, hl with | [_, _], _ => rfl
  have F3 := fun_mk (st := s_places_of) l3 c3 k3
  have b3 := F3.binds (ps := ["net"]) fun _ _ _ _ _ _ us hl => match us, hl with | [_], _ => rfl
  have F4 := fun_mk (st := s_ties_many) l4 c4 k4
  have b4 := F4.binds (ps := ["net"]) fun _ _ _ _ _ _ us hl => match us, hl with | [_], _ => rfl
  have F5 := fun_mk (st := s_is_way) l5 c5 k5
  have b5 := F5.binds (ps := ["net", "way"]) fun _ _ _ _ _ _ us hl => match us, hl with | [_, _], _ => rfl
  have F6 := fun_mk (st := s_ties_on) l6 c6 k6
  have b6 := F6.binds (ps := ["net", "way"]) fun _ _ _ _ _ _ us hl => match us, hl with | [_, _], _ => rfl
  have F7 := fun_mk (st := s_must_be_ways) l7 c7 k7
  have b7 := F7.binds (ps := ["net", "ways"]) fun _ _ _ _ _ _ us hl => match us, hl with | [_, _], _ => rfl
  have F8 := fun_mk (st := s_look_ways) l8 c8 k8
  have b8 := F8.binds (ps := ["net", "ways"]) fun _ _ _ _ _ _ us hl => match us, hl with | [_, _], _ => rfl
  have F9 := fun_mk (st := s_look_ring) l9 c9 k9
  have b9 := F9.binds (ps := ["net"]) fun _ _ _ _ _ _ us hl => match us, hl with | [_], _ => rfl
  have F10 := fun_mk (st := s_counted) l10 c10 k10
  have b10 := F10.binds (ps := ["net", "ways"]) fun _ _ _ _ _ _ us hl => match us, hl with | [_, _], _ => rfl
  have F11 := fun_mk (st := s_have_common) l11 c11 k11
  have b11 := F11.binds (ps := ["one", "other"]) fun _ _ _ _ _ _ us hl => match us, hl with | [_, _], _ => rfl
  have F12 := fun_mk (st := s_cut_at) l12 c12 k12
  have b12 := F12.binds (ps := ["ways", "each"]) fun _ _ _ _ _ _ us hl => match us, hl with | [_, _], _ => rfl
  have F13 := fun_mk (st := s_ring_hues) l13 c13 k13
  have b13 := F13.binds (ps := ["net", "ways"]) fun _ _ _ _ _ _ us hl => match us, hl with | [_, _], _ => rfl
  have F14 := fun_mk (st := s_law_mix) l14 c14 k14
  have b14 := F14.binds (ps := ["_law_number", "_law_k"]) fun _ _ _ _ _ _ us hl => match us, hl with | [_, _], _ => rfl
  have F15 := fun_mk (st := s_law_left) l15 c15 k15
  have b15 := F15.binds (ps := ["_law_cell"]) fun _ _ _ _ _ _ us hl => match us, hl with | [_], _ => rfl
  have F16 := fun_mk (st := s_law_draw) l16 c16 k16
  have b16 := F16.binds (ps := ["_law_left_here", "_law_base"]) fun _ _ _ _ _ _ us hl => match us, hl with | [_, _], _ => rfl
  have F17 := fun_mk (st := s_law_whole) l17 c17 k17
  have b17 := F17.binds (ps := ["_law_found"]) fun _ _ _ _ _ _ us hl => match us, hl with | [_], _ => rfl
  have F18 := fun_mk (st := s_law_way) l18 c18 k18
  have b18 := F18.binds (ps := ["_law_left_here", "_law_many"]) fun _ _ _ _ _ _ us hl => match us, hl with | [_, _], _ => rfl
  have F19 := fun_mk (st := s_law_ties) l19 c19 k19
  have b19 := F19.binds (ps := ["_law_many", "_law_way_here"]) fun _ _ _ _ _ _ us hl => match us, hl with | [_, _], _ => rfl
  have F20 := fun_mk (st := s_law_rounds) l20 c20 k20
  have b20 := F20.binds (ps := ["_law_left_here", "_law_many", "_law_most"]) fun _ _ _ _ _ _ us hl => match us, hl with | [_, _, _], _ => rfl
  have F21 := fun_mk (st := s_law_ways) l21 c21 k21
  have b21 := F21.binds (ps := ["_law_left_here", "_law_many"]) fun _ _ _ _ _ _ us hl => match us, hl with | [_, _], _ => rfl
  have F22 := fun_mk (st := s_law_right) l22 c22 k22
  have b22 := F22.binds (ps := ["_law_many", "_law_ways_here", "_law_hues"]) fun _ _ _ _ _ _ us hl => match us, hl with | [_, _, _], _ => rfl
  have F23 := fun_mk (st := s_law_bound) l23 c23 k23
  have b23 := F23.binds (ps := ["_law_many", "_law_ways_here"]) fun _ _ _ _ _ _ us hl => match us, hl with | [_, _], _ => rfl
  have F24 := fun_mk (st := s_law) l24 c24 k24
  have b24 := F24.binds (ps := ["_law_script"]) fun _ _ _ _ _ _ us hl => match us, hl with | [_], _ => rfl
  have T : Txt K mg ⟨f0, _, f1, _, f2, _, f3, _, f4, _, f5, _, f6, _, f7, _, f8, _, f9, _, f10, _, f11, _, f12, _, f13, _, f14, _, f15, _, f16, _, f17, _, f18, _, f19, _, f20, _, f21, _, f22, _, f23, _, fa, _, lc13, lp13⟩ :=
    ⟨PySem.W.mg_of X G a0, F0, b0, PySem.W.mg_of X G a1, F1, b1, PySem.W.mg_of X G a2, F2, b2, PySem.W.mg_of X G a3, F3, b3, PySem.W.mg_of X G a4, F4, b4, PySem.W.mg_of X G a5, F5, b5, PySem.W.mg_of X G a6, F6, b6, PySem.W.mg_of X G a7, F7, b7, PySem.W.mg_of X G a8, F8, b8, PySem.W.mg_of X G a9, F9, b9, PySem.W.mg_of X G a10, F10, b10, PySem.W.mg_of X G a11, F11, b11, PySem.W.mg_of X G a12, F12, b12, PySem.W.mg_of X G a13, F13, b13, PySem.W.mg_of X G a14, F14, b14, PySem.W.mg_of X G a15, F15, b15, PySem.W.mg_of X G a16, F16, b16, PySem.W.mg_of X G a17, F17, b17, PySem.W.mg_of X G a18, F18, b18, PySem.W.mg_of X G a19, F19, b19, PySem.W.mg_of X G a20, F20, b20, PySem.W.mg_of X G a21, F21, b21, PySem.W.mg_of X G a22, F22, b22, PySem.W.mg_of X G a23, F23, b23, PySem.W.mg_of X G a24, F24, b24, tok_mk (PySem.W.mg_of X G e0), PySem.W.mg_none_of X G z0, PySem.W.mg_none_of X G z1, PySem.W.mg_none_of X G z2, PySem.W.mg_none_of X G z3, PySem.W.mg_none_of X G z4, PySem.W.mg_none_of X G z5, PySem.W.mg_none_of X G z6, PySem.W.mg_none_of X G z7, PySem.W.mg_none_of X G z8, PySem.W.mg_none_of X G z9, rfl⟩
  have OK := fun (base : Heap) (hB : TbOk mg base _) => @ok_law l.prog w K mg base _ hB T
  refine ⟨_, [(lc13, lp13)], sp_law K ⟨f0, _, f1, _, f2, _, f3, _, f4, _, f5, _, f6, _, f7, _, f8, _, f9, _, f10, _, f11, _, f12, _, f13, _, f14, _, f15, _, f16, _, f17, _, f18, _, f19, _, f20, _, f21, _, f22, _, f23, _, fa, _, lc13, lp13⟩, (List.forall_mem_cons.mpr ⟨lt13, (fun _ h => nomatch h)⟩), (List.forall_mem_cons.mpr ⟨ln13, (fun _ h => nomatch h)⟩), (List.forall_mem_cons.mpr ⟨PySem.W.codeHd_of_K X lh13, (fun _ h => nomatch h)⟩), ?b, fun H a ns hl _ hT hS => ⟨a, ns, rfl, hS, hl, LamX.TabS.nil (hT (lc13, lp13) (by simp)), fun _ => rfl⟩, fun base _ _ hB => OK base ⟨hB (lc13, lp13) (by simp)⟩⟩
  exact fun s v => .of_eq rfl
end Pf
open PySem PySem.W PyProof.Rows
set_option maxHeartbeats 0 in
theorem PySem.Challenge.cw_tiehues_k70_hues_on_rings_holds : PySem.Challenge.rw_tiehues_k70_hues_on_rings.Holds := by
  w_on; o_law; k_head; (case hw => w_witness2)
  k_fill
  refine LamX.walk_ofTs (l := PySem.Challenge.rw_tiehues_k70_hues_on_rings) (n := 63) (k := 6) (x := "_law_script") (CX := fun _ => L2.CX0) rfl (by decide) rfl ⟨rfl, by decide, by decide⟩ (fun w h Y => PySem.W.km_in_of Y) ?F (fun _ _ _ _ _ h => h)
  case F =>
    intro w mg fa h Y KX G hmg
    have hT8 := PySem.W.km_tabs_of Y
    refine' Pf.all_mk KX G hmg ?a0 ?l0 ?c0 ?k0 ?a1 ?l1 ?c1 ?k1 ?a2 ?l2 ?c2 ?k2 ?a3 ?l3 ?c3 ?k3 ?a4 ?l4 ?c4 ?k4 ?a5 ?l5 ?c5 ?k5 ?a6 ?l6 ?c6 ?k6 ?a7 ?l7 ?c7 ?k7 ?a8 ?l8 ?c8 ?k8 ?a9 ?l9 ?c9 ?k9 ?a10 ?l10 ?c10 ?k10 ?a11 ?l11 ?c11 ?k11 ?a12 ?l12 ?c12 ?k12 ?a13 ?l13 ?c13 ?k13 ?a14 ?l14 ?c14 ?k14 ?a15 ?l15 ?c15 ?k15 ?a16 ?l16 ?c16 ?k16 ?a17 ?l17 ?c17 ?k17 ?a18 ?l18 ?c18 ?k18 ?a19 ?l19 ?c19 ?k19 ?a20 ?l20 ?c20 ?k20 ?a21 ?l21 ?c21 ?k21 ?a22 ?l22 ?c22 ?k22 ?a23 ?l23 ?c23 ?k23 ?a24 ?l24 ?c24 ?k24 ?e0 ?z0 ?z1 ?z2 ?z3 ?z4 ?z5 ?z6 ?z7 ?z8 ?z9 ?lk13 ?lw13 ?lh13 ?ln13 ?lt13
    (case a0 => k_is); (case l0 => k_is); (case c0 => k_is); (case k0 => k_is); (case a1 => k_is); (case l1 => k_is); (case c1 => k_is); (case k1 => k_is); (case a2 => k_is); (case l2 => k_is); (case c2 => k_is); (case k2 => k_is); (case a3 => k_is); (case l3 => k_is); (case c3 => k_is); (case k3 => k_is); (case a4 => k_is); (case l4 => k_is); (case c4 => k_is); (case k4 => k_is); (case a5 => k_is); (case l5 => k_is); (case c5 => k_is); (case k5 => k_is); (case a6 => k_is); (case l6 => k_is); (case c6 => k_is); (case k6 => k_is); (case a7 => k_is); (case l7 => k_is); (case c7 => k_is); (case k7 => k_is); (case a8 => k_is); (case l8 => k_is); (case c8 => k_is); (case k8 => k_is); (case a9 => k_is); (case l9 => k_is); (case c9 => k_is); (case k9 => k_is); (case a10 => k_is); (case l10 => k_is); (case c10 => k_is); (case k10 => k_is); (case a11 => k_is); (case l11 => k_is); (case c11 => k_is); (case k11 => k_is); (case a12 => k_is); (case l12 => k_is); (case c12 => k_is); (case k12 => k_is); (case a13 => k_is); (case l13 => k_is); (case c13 => k_is); (case k13 => k_is); (case a14 => k_is); (case l14 => k_is); (case c14 => k_is); (case k14 => k_is); (case a15 => k_is); (case l15 => k_is); (case c15 => k_is); (case k15 => k_is); (case a16 => k_is); (case l16 => k_is); (case c16 => k_is); (case k16 => k_is); (case a17 => k_is); (case l17 => k_is); (case c17 => k_is); (case k17 => k_is); (case a18 => k_is); (case l18 => k_is); (case c18 => k_is); (case k18 => k_is); (case a19 => k_is); (case l19 => k_is); (case c19 => k_is); (case k19 => k_is); (case a20 => k_is); (case l20 => k_is); (case c20 => k_is); (case k20 => k_is); (case a21 => k_is); (case l21 => k_is); (case c21 => k_is); (case k21 => k_is); (case a22 => k_is); (case l22 => k_is); (case c22 => k_is); (case k22 => k_is); (case a23 => k_is); (case l23 => k_is); (case c23 => k_is); (case k23 => k_is); (case a24 => k_is); (case l24 => k_is); (case c24 => k_is); (case k24 => k_is); (case e0 => k_is); (case z0 => k_is); (case z1 => k_is); (case z2 => k_is); (case z3 => k_is); (case z4 => k_is); (case z5 => k_is); (case z6 => k_is); (case z7 => k_is); (case z8 => k_is); (case z9 => k_is); (case lk13 => k_is); (case lw13 => first | rfl | k_is); (case lh13 => kernel_rfl); (case ln13 => kernel_rfl); (case lt13 => exact hT8 _ (by k_mem))
