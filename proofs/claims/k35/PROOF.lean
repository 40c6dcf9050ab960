import PyProof.Rows.All
import Wide.All
import OpenK.AllK
import Wide.FinOn
import HandS.ForMost
import HandS.NoneIn
import HandS.Conv
import HandS.IsInst
import HandS.Wide
import HandS.SortInts
import HandS.Walk
import KE.DataMinMax
import HandS.Text
import HandS.Zip
import HandS.Exc
import HandS.WordsDict
import HandS.Deep
import HandS.Iter
import HandS.Sort
import HandS.Dict
import HandS.ExcOwn
import HandS.More
import HandS.Style
import HandS.List
import HandS.Rev
import HandS.Set
import HandS.Strs
import KE.SortData
import PySem.Challenge.RW_tiehues_k35_best_lots
set_option Elab.async false
set_option linter.all false
set_option maxRecDepth 100000
set_option maxHeartbeats 4000000
set_option synthInstance.maxHeartbeats 0
set_option synthInstance.maxSize 1000000
namespace Cm
open PySem PySem.Spec PyProof.Rows L2

/-! ### named readings -/
def rLenX (K : PySem.W.Frag) : List V → Hp → VK → Prop := fun xs H Q => ∃ p ys, xs = [.ref p] ∧ (SqL K H p ys ∨ SqT K H p ys) ∧ Q (.int ys.length) H
theorem q_len {X : Cx} : CallR X (.builtin "len") (rLenX X.K) := call_len_seq
def rListOf (K : PySem.W.Frag) : List V → Hp → VK → Prop := fun xs H Q => ∃ p ys, xs = [.ref p] ∧ (SqL K H p ys ∨ SqT K H p ys) ∧ ∀ l, H l = none → Q (.ref l) (upd H l (.lst ys))
theorem q_listOf {X : Cx} : CallR X (.type "list") (rListOf X.K) := call_list_of
def rMax2 : List V → Hp → VK → Prop := fun xs H Q => ∃ i j, xs = [.int i, .int j] ∧ Q (.int (if j > i then j else i)) H
theorem q_max2 {X : Cx} (hc : X.calm = true) : CallR X (.builtin "max") rMax2 := call_max2 hc
def rMin2 : List V → Hp → VK → Prop := fun xs H Q => ∃ i j, xs = [.int i, .int j] ∧ Q (.int (if j < i then j else i)) H
theorem q_min2 {X : Cx} (hc : X.calm = true) : CallR X (.builtin "min") rMin2 := call_min2 hc
theorem q_isi {X : Cx} : CallR X (.builtin "isinstance") (rIsi X.K) := call_isi
def rIntOf : List V → Hp → VK → Prop := fun xs H Q => (∃ i, xs = [.int i] ∧ Q (.int i) H) ∨ ∃ k, xs = [.bl k] ∧ Q (.int (if k then 1 else 0)) H
theorem q_intB {X : Cx} : CallR X (.type "int") rIntOf := call_int1
theorem q_intI {X : Cx} : CallR X (.type "int") rIntOf := call_int1

/-! ### operators by names -/
def xAdd : R2 := rI0 fun i j => .int (i + j)
def xSub : R2 := rI0 fun i j => .int (i - j)
def xMul : R2 := rI CMul fun i j => .int (i * j)
def xMulW : R2 := rI CMulW fun i j => .int (i * j)
def xDiv : R2 := rI CDiv fun i j => .int (i / j)
def xDivW : R2 := rI CDivW fun i j => .int (i / j)
def xMod : R2 := rI (fun _ j => 0 < j) fun i j => .int (i % j)
def xPow : R2 := rI CPow fun i j => .int (i ^ j.toNat)
def xLt : R2 := rI0 fun i j => .bl (decide (i < j))
def xLe : R2 := rI0 fun i j => .bl (decide (i ≤ j))
def xGt : R2 := rI0 fun i j => .bl (decide (j < i))
def xGe : R2 := rI0 fun i j => .bl (decide (j ≤ i))
def xNeg : V → Hp → VK → Prop := rU fun i => .int (-i)
def xIsN : R2 := fun x y H Q => y = .non ∧ Q (.bl (decide (x = .non))) H
def xNotN : R2 := fun x y H Q => y = .non ∧ Q (.bl (!decide (x = .non))) H
def xTru (K : PySem.W.Frag) (ta : TE) : TT := fun σ H Q => ta σ H fun x H' => ∃ k, TruV K x H' k ∧ Q k H'

/-! ### xs[i] += e -/
def rGetL (K : PySem.W.Frag) : V → V → Hp → VK → Prop := fun x y H Q => ∃ p xs i v, x = .ref p ∧ y = .int i ∧ SqL K H p xs ∧ 0 ≤ i ∧ atI xs i = some v ∧ Q v H
theorem get_list {X : Cx} : PGet X (rGetL X.K) := by
  intro pins s σ H x y v u Q I rx ry h
  obtain ⟨p, xs, i, z, rfl, rfl, hq, h0, he, q⟩ := h
  cases rx
  obtain ⟨t, rfl⟩ := ry
  obtain ⟨its, r, pl, hz⟩ := I.list hq
  obtain ⟨j, h1, h2, h3, h4, h5⟩ := atI_get he
  obtain ⟨w, ew, rw'⟩ := r.get h2
  have hl := r.length
  have hn := line63
  have fin : EP X pins σ Q w s := ⟨z, H, I, rw', q⟩
  have hj : i.toNat = j := by
    rw [seqIndex_of h0 h5] at h1
    exact Option.some.inj h1
  exact wpAny_getItem_list pl.isList h0 (by omega) (by rw [hj]; simpa using ew) fin
def xAugL (K : PySem.W.Frag) (to ti te : TE) : TS := tAugS to ti te (rGetL K) (ipI fun i j => i + j) rSetL
theorem q_augL {X : Cx} {o i e : Expr} {to ti te : TE} {tpos pos : Pos} (ho : PE X o to) (hi : PE X i ti) (he : PE X e te)
    (ha : ∀ ov iv new, augStore i ov iv new = (do holding [new, ov, iv] (setItem ov iv new); release [new, ov, iv] []; pure .next) := by intros; rfl) : PS X (.AugAssign (.Subscript o i tpos) .Add e pos) (xAugL X.K to ti te) :=
  ps_augS ho hi get_list he ip_add set_list ha

/-! ### constants of the module -/
def g_tok (mg : Str → Option Value) (x : Str) : Tok := match mg x with
  | some (.int _ t) => t
  | _ => default
theorem tok_mk {mg : Str → Option Value} {x : Str} {n : Int} {t : Tok} (h : mg x = some (.int n t)) : mg x = some (.int n (g_tok mg x)) := by
  unfold g_tok
  rw [h]

/-! ### heaps -/
theorem same_new {H : Hp} {p : Addr} {o : HO} (h : H p = none) : Same H (upd H p o) := fun b x e => by
  rw [upd_ne (ne_of_none e h)]
  exact e
theorem same_mut {H H' : Hp} {p : Addr} {o : HO} (e : Same H H') (h : H p = none) : Same H (upd H' p o) := fun a u ha => by
  rw [upd_ne (ne_of_none ha h)]
  exact e a u ha
theorem same_seqT {K : PySem.W.Frag} {H H' : Hp} {a : Addr} {xs : List V} (e : Same H H') (h : SqT K H a xs) : SqT K H' a xs := by
  rcases h with (h | ⟨o, h⟩) | h
  · exact .inl (.inl (e _ _ h))
  · exact .inl (.inr ⟨o, e _ _ h⟩)
  · exact .inr h
theorem sl {K : PySem.W.Frag} {H : Hp} {a : Addr} {xs : List V} (h : H a = some (.lst xs)) : SqL K H a xs := .inl (.inl h)
theorem stp {K : PySem.W.Frag} {H : Hp} {a : Addr} {xs : List V} (h : H a = some (.tup xs)) : SqT K H a xs := .inl (.inl h)
theorem sz {n : Nat} (h : n ≤ 100000) : n ≤ sizeLine := Nat.le_trans h (by decide)
theorem szl {n : Nat} (h : n < 100000) : n < sizeLine := Nat.lt_of_lt_of_le h (by decide)

/-! ### data -/
mutual
theorem dp_same {K : PySem.W.Frag} {H H' : Hp} (e : Same H H') : ∀ {v : V} {d : PyData}, Dp K H v d → Dp K H' v d
  | _, _, .non => .non
  | _, _, .bl b => .bl b
  | _, _, .int i => .int i
  | _, _, .str x => .str x
  | _, _, .lst s r => .lst (e.seq s) (dpa_same e r)
  | _, _, .tup s r => .tup (same_seqT e s) (dpa_same e r)
theorem dpa_same {K : PySem.W.Frag} {H H' : Hp} (e : Same H H') : ∀ {vs : List V} {ds : List PyData}, DpAll K H vs ds → DpAll K H' vs ds
  | _, _, .nil => .nil
  | _, _, .cons h r => .cons (dp_same e h) (dpa_same e r)
end
section
variable {K : PySem.W.Frag} {H : Hp}
theorem dp_int {v : V} {i : Int} (h : Dp K H v (.int i)) : v = .int i := by cases h; rfl
theorem dp_bool {v : V} {b : Bool} (h : Dp K H v (.bool b)) : v = .bl b := by cases h; rfl
theorem dp_str {v : V} {s : Str} (h : Dp K H v (.str s)) : v = .str s := by cases h; rfl
theorem dp_list {v : V} {ds : List PyData} (h : Dp K H v (.list ds)) : ∃ a xs, v = .ref a ∧ SqL K H a xs ∧ DpAll K H xs ds := by
  cases h with | lst s r => exact ⟨_, _, rfl, s, r⟩
theorem dp_tup {v : V} {ds : List PyData} (h : Dp K H v (.tuple ds)) : ∃ a xs, v = .ref a ∧ SqT K H a xs ∧ DpAll K H xs ds := by
  cases h with | tup s r => exact ⟨_, _, rfl, s, r⟩
theorem dp_tup2 {v : V} {c d : PyData} (h : Dp K H v (.tuple [c, d])) : ∃ a x y, v = .ref a ∧ SqT K H a [x, y] ∧ Dp K H x c ∧ Dp K H y d := by
  cases h with | tup s r =>
    cases r with | cons h1 r =>
      cases r with | cons h2 r =>
        cases r
        exact ⟨_, _, _, rfl, s, h1, h2⟩
theorem dp_pair {v : V} {a b : Int} (h : Dp K H v (.tuple [.int a, .int b])) : ∃ p, v = .ref p ∧ SqT K H p [.int a, .int b] := by
  obtain ⟨p, x, y, rfl, s, h1, h2⟩ := dp_tup2 h
  rw [dp_int h1, dp_int h2] at s
  exact ⟨p, rfl, s⟩
theorem dpa_ints : ∀ {ns : List Int} {vs : List V}, DpAll K H vs (ns.map PyData.int) → vs = ns.map V.int
  | [], _, h => by cases h; rfl
  | n :: r, _, h => by
    cases h with | cons h1 h2 => rw [dp_int h1, dpa_ints h2]; rfl
theorem dpa_of_ints : ∀ ns : List Int, DpAll K H (ns.map V.int) (ns.map PyData.int)
  | [] => .nil
  | n :: r => .cons (.int n) (dpa_of_ints r)
theorem dpa_len : ∀ {vs : List V} {ds : List PyData}, DpAll K H vs ds → vs.length = ds.length
  | _, _, .nil => rfl
  | _, _, .cons _ r => by simp [dpa_len r]
theorem dpa_get : ∀ {vs : List V} {ds : List PyData} {i : Nat} {v : V}, DpAll K H vs ds → vs[i]? = some v → ∃ d, ds[i]? = some d ∧ Dp K H v d
  | _, _, _, _, .nil, e => by simp at e
  | _, _, 0, _, .cons h _, e => by simp at e; subst e; exact ⟨_, rfl, h⟩
  | _, _, i + 1, _, .cons _ r, e => by
    obtain ⟨d, h1, h2⟩ := dpa_get (i := i) r (by simpa using e)
    exact ⟨d, by simpa using h1, h2⟩
theorem dpa_get2 : ∀ {vs : List V} {ds : List PyData} {i : Nat} {d : PyData}, DpAll K H vs ds → ds[i]? = some d → ∃ v, vs[i]? = some v ∧ Dp K H v d
  | _, _, _, _, .nil, e => by simp at e
  | _, _, 0, _, .cons h _, e => by simp at e; subst e; exact ⟨_, rfl, h⟩
  | _, _, i + 1, _, .cons _ r, e => by
    obtain ⟨d, h1, h2⟩ := dpa_get2 (i := i) r (by simpa using e)
    exact ⟨d, by simpa using h1, h2⟩
theorem dpa_app {vs ws : List V} {ds es : List PyData} : DpAll K H vs ds → DpAll K H ws es → DpAll K H (vs ++ ws) (ds ++ es)
  | .nil, r => r
  | .cons h t, r => .cons h (dpa_app t r)
/-- a list of ints -/
abbrev dInts (ns : List Int) : PyData := .list (ns.map PyData.int)
theorem dp_ints {v : V} {ns : List Int} (h : Dp K H v (dInts ns)) : ∃ a, v = .ref a ∧ SqL K H a (ns.map V.int) := by
  obtain ⟨a, xs, rfl, s, r⟩ := dp_list h
  rw [dpa_ints r] at s
  exact ⟨a, rfl, s⟩
theorem dp_of_ints {a : Addr} {ns : List Int} (h : SqL K H a (ns.map V.int)) : Dp K H (.ref a) (dInts ns) := .lst h (dpa_of_ints ns)
/-- a pair of ints -/
abbrev dPair (p : Int × Int) : PyData := .tuple [.int p.1, .int p.2]
theorem dp_of_pair {a : Addr} {x y : Int} (h : SqT K H a [.int x, .int y]) : Dp K H (.ref a) (dPair (x, y)) := .tup h (.cons (.int x) (.cons (.int y) .nil))
abbrev dPairs (ps : List (Int × Int)) : PyData := .list (ps.map dPair)
end

theorem dpairs_get {K : PySem.W.Frag} {H : Hp} {xs : List V} {ps : List (Int × Int)} {i : Nat} {x : V} (hxs : DpAll K H xs (ps.map dPair)) (hx : xs[i]? = some x) : ∃ p c, ps[i]? = some p ∧ x = .ref c ∧ SqT K H c [.int p.1, .int p.2] := by
  obtain ⟨d, hd, hdx⟩ := dpa_get hxs hx
  rw [List.getElem?_map] at hd
  obtain ⟨p, hp, rfl⟩ := Option.map_eq_some_iff.mp hd
  obtain ⟨c, rfl, hcs⟩ := dp_pair hdx
  exact ⟨p, c, hp, rfl, hcs⟩
/-- data that may be compared: no dicts, at most n deep -/
def Sh (n : Nat) (d : PyData) : Prop := d.canLay0 = true ∧ d.depth ≤ n
theorem Sh.shaped {n : Nat} {d : PyData} (h : Sh n d) (hn : n ≤ 64) : SeqAt.shaped d = true := by
  unfold SeqAt.shaped
  rw [h.1, decide_eq_true (Nat.le_trans h.2 hn)]; rfl
theorem Sh.mono {n m : Nat} {d : PyData} (h : Sh n d) (hn : n ≤ m) : Sh m d := ⟨h.1, Nat.le_trans h.2 hn⟩
theorem sh_int {n : Nat} {i : Int} : Sh n (.int i) := ⟨rfl, Nat.zero_le _⟩
theorem sh_bool {n : Nat} {b : Bool} : Sh n (.bool b) := ⟨rfl, Nat.zero_le _⟩
theorem sh_none {n : Nat} : Sh n .none := ⟨rfl, Nat.zero_le _⟩
theorem sh_all {n : Nat} : ∀ {ds : List PyData}, (∀ d ∈ ds, Sh n d) → PyData.canLayAll0 ds = true ∧ PyData.depthAll ds ≤ n
  | [], _ => ⟨rfl, Nat.zero_le _⟩
  | d :: r, h => by
    obtain ⟨h1, h2⟩ := sh_all (ds := r) fun x hx => h x (List.mem_cons_of_mem _ hx)
    obtain ⟨h3, h4⟩ := h d List.mem_cons_self
    refine ⟨?_, ?_⟩
    · show (PyData.canLay0 d && PyData.canLayAll0 r) = true
      rw [h3, h1]; rfl
    · show max d.depth (PyData.depthAll r) ≤ n
      omega
theorem sh_list {n : Nat} {ds : List PyData} (h : ∀ d ∈ ds, Sh n d) : Sh (n + 1) (.list ds) := by
  obtain ⟨h1, h2⟩ := sh_all h
  exact ⟨h1, by show PyData.depthAll ds + 1 ≤ n + 1; omega⟩
theorem sh_tup {n : Nat} {ds : List PyData} (h : ∀ d ∈ ds, Sh n d) : Sh (n + 1) (.tuple ds) := by
  obtain ⟨h1, h2⟩ := sh_all h
  exact ⟨h1, by show PyData.depthAll ds + 1 ≤ n + 1; omega⟩
theorem sh_ints {n : Nat} (ns : List Int) : Sh (n + 1) (dInts ns) := sh_list fun d hd => by
  obtain ⟨i, _, rfl⟩ := List.mem_map.mp hd
  exact sh_int
theorem sh_pair {n : Nat} (p : Int × Int) : Sh (n + 1) (dPair p) := sh_tup fun d hd => by
  rcases List.mem_cons.mp hd with rfl | hd
  · exact sh_int
  · rcases List.mem_cons.mp hd with rfl | hd
    · exact sh_int
    · cases hd
theorem sh_pairs {n : Nat} (ps : List (Int × Int)) : Sh (n + 2) (dPairs ps) := sh_list fun d hd => by
  obtain ⟨p, _, rfl⟩ := List.mem_map.mp hd
  exact sh_pair p
theorem sh_two {n : Nat} {c d : PyData} (h1 : Sh n c) (h2 : Sh n d) : Sh (n + 1) (.tuple [c, d]) := sh_tup fun x hx => by
  rcases List.mem_cons.mp hx with rfl | hx
  · exact h1
  · rcases List.mem_cons.mp hx with rfl | hx
    · exact h2
    · cases hx
theorem Sh.refl {n : Nat} {d : PyData} (h : Sh n d) : PyData.eqv d d = true := SeqAt.eqv_refl d h.1
theorem ff_iff {P : Prop} (h : ¬ P) : false = true ↔ P := ⟨fun z => (nomatch z), fun z => (h z).elim⟩
theorem tt_iff {P : Prop} (h : P) : true = true ↔ P := ⟨fun _ => h, fun _ => rfl⟩

theorem ixN_of {n : Nat} {i : Int} (h0 : 0 ≤ i) (h1 : i < n) : ixN n i = some i.toNat := by unfold ixN; rw [if_pos h0, if_pos h1]
theorem map_erase (ns : List Int) (i : Nat) : (ns.map V.int).eraseIdx i = (ns.eraseIdx i).map V.int := by
  induction ns generalizing i with
  | nil => rfl
  | cons x r ih => cases i with
    | zero => rfl
    | succ i => show V.int x :: (r.map V.int).eraseIdx i = _; rw [ih]; rfl
theorem erase_perm {α : Type} (l : List α) (i : Nat) (h : i < l.length) : (l[i] :: l.eraseIdx i).Perm l := by
  induction l generalizing i with
  | nil => exact absurd h (by simp)
  | cons x r ih => cases i with
    | zero => exact List.Perm.refl _
    | succ i =>
      have h' : i < r.length := by simpa using h
      show (r[i] :: x :: r.eraseIdx i).Perm (x :: r)
      exact (List.Perm.swap _ _ _).trans ((ih i h').cons x)
theorem getD_memI {ns : List Int} {i : Int} (h0 : 0 ≤ i) (h1 : i < ns.length) : ns.getD i.toNat 0 ∈ ns := by
  have h : i.toNat < ns.length := by omega
  rw [List.getD_eq_getElem?_getD, List.getElem?_eq_getElem h]
  exact List.getElem_mem h
theorem not_in2 {p a b : Addr} (h1 : p ≠ a) (h2 : p ≠ b) : p ∉ [a, b] := by
  intro z
  rcases List.mem_cons.mp z with z | z
  · exact h1 z
  · rcases List.mem_cons.mp z with z | z
    · exact h2 z
    · cases z

/-! ### readings, step by step -/
section
variable {K : PySem.W.Frag} {σ : L2.St} {H : Hp} {D : Ends} {Q : VK} {ta tb te : TE} {t u : TT} {s1 s2 : TS} {QT : Bool → Hp → Prop} {QA : List V → Hp → Prop} {tr : TA} {QS : L2.St → Hp → Prop}
theorem k_seq {nx : L2.St → Hp → Prop} {rt : VK} {bk ct : L2.St → Hp → Prop} (h : s1 ⟨s2 ⟨nx, rt, bk, ct⟩, rt, bk, ct⟩ σ H) : tSeq s1 s2 ⟨nx, rt, bk, ct⟩ σ H := h
theorem k_nx {nx : L2.St → Hp → Prop} {rt : VK} {bk ct : L2.St → Hp → Prop} (h : nx σ H) : Ends.nx ⟨nx, rt, bk, ct⟩ σ H := h
theorem k_next {nx : L2.St → Hp → Prop} {rt : VK} {bk ct : L2.St → Hp → Prop} (h : nx σ H) : tNext ⟨nx, rt, bk, ct⟩ σ H := h
theorem k_cont {nx : L2.St → Hp → Prop} {rt : VK} {bk ct : L2.St → Hp → Prop} (h : ct σ H) : tCont ⟨nx, rt, bk, ct⟩ σ H := h
theorem k_brk {nx : L2.St → Hp → Prop} {rt : VK} {bk ct : L2.St → Hp → Prop} (h : bk σ H) : tBreak ⟨nx, rt, bk, ct⟩ σ H := h
theorem k_set {nx : L2.St → Hp → Prop} {rt : VK} {bk ct : L2.St → Hp → Prop} {i : Nat} (h : te σ H fun x H1 => nx (σ.set i (some x)) H1) : tAsg te (gName i) ⟨nx, rt, bk, ct⟩ σ H := h
theorem k_asg {nx : L2.St → Hp → Prop} {rt : VK} {bk ct : L2.St → Hp → Prop} {g : TG} (h : te σ H fun x H1 => g x σ H1 nx) : tAsg te g ⟨nx, rt, bk, ct⟩ σ H := h
theorem k_drop {nx : L2.St → Hp → Prop} {rt : VK} {bk ct : L2.St → Hp → Prop} (h : te σ H fun _ H1 => nx σ H1) : tDrop te ⟨nx, rt, bk, ct⟩ σ H := h
theorem k_ret {nx : L2.St → Hp → Prop} {rt : VK} {bk ct : L2.St → Hp → Prop} (h : te σ H rt) : tRet te ⟨nx, rt, bk, ct⟩ σ H := h
theorem k_retN {nx : L2.St → Hp → Prop} {rt : VK} {bk ct : L2.St → Hp → Prop} (h : rt .non H) : tRetN ⟨nx, rt, bk, ct⟩ σ H := h
theorem k_aug {nx : L2.St → Hp → Prop} {rt : VK} {bk ct : L2.St → Hp → Prop} {i : Nat} {f : Int → Int → Int} {a : Int} (e : σ[i]? = some (some (.int a))) (h : te σ H fun y H1 => ipI f (.int a) y H1 fun z H2 => nx (σ.set i (some z)) H2) : tAug i te (ipI f) ⟨nx, rt, bk, ct⟩ σ H := ⟨_, e, h⟩
theorem k_augL {nx : L2.St → Hp → Prop} {rt : VK} {bk ct : L2.St → Hp → Prop} {to ti : TE} (h : to σ H fun o H1 => ti σ H1 fun i H2 => rGetL K o i H2 fun x H3 => te σ H3 fun y H4 => ipI (fun i j => i + j) x y H4 fun z H5 => rSetL o i z H5 fun H6 => nx σ H6) : xAugL K to ti te ⟨nx, rt, bk, ct⟩ σ H := h
theorem k_ipI {f : Int → Int → Int} {a b : Int} (h : Q (.int (f a b)) H) : ipI f (.int a) (.int b) H Q := ⟨a, b, rfl, rfl, h⟩
theorem k_if (h : t σ H fun b H1 => if b = true then s1 D σ H1 else s2 D σ H1) : tIfS t s1 s2 D σ H := h
theorem k_var {i : Nat} {v : V} (e : σ[i]? = some (some v)) (h : Q v H) : tVar i σ H Q := ⟨v, e, h⟩
theorem k_c {v : V} (h : Q v H) : tC v σ H Q := h
theorem k_op {r : R2} (h : ta σ H fun x H1 => tb σ H1 fun y H2 => r x y H2 Q) : tOp r ta tb σ H Q := h
theorem k_un {r : V → Hp → VK → Prop} (h : ta σ H fun x H1 => r x H1 Q) : tUn r ta σ H Q := h
theorem k_I0 {g : Int → Int → V} {i j : Int} (h : Q (g i j) H) : rI0 g (.int i) (.int j) H Q := ⟨i, j, rfl, rfl, h⟩
theorem k_I {C : Int → Int → Prop} {g : Int → Int → V} {i j : Int} (hc : C i j) (h : Q (g i j) H) : rI C g (.int i) (.int j) H Q := ⟨i, j, rfl, rfl, hc, h⟩
theorem k_add {i j : Int} (h : Q (.int (i + j)) H) : xAdd (.int i) (.int j) H Q := ⟨i, j, rfl, rfl, h⟩
theorem k_sub {i j : Int} (h : Q (.int (i - j)) H) : xSub (.int i) (.int j) H Q := ⟨i, j, rfl, rfl, h⟩
theorem k_mul {i j : Int} (hc : CMul i j) (h : Q (.int (i * j)) H) : xMul (.int i) (.int j) H Q := ⟨i, j, rfl, rfl, hc, h⟩
theorem k_mulW {i j : Int} (hc : CMulW i j) (h : Q (.int (i * j)) H) : xMulW (.int i) (.int j) H Q := ⟨i, j, rfl, rfl, hc, h⟩
theorem k_div {i j : Int} (hc : CDiv i j) (h : Q (.int (i / j)) H) : xDiv (.int i) (.int j) H Q := ⟨i, j, rfl, rfl, hc, h⟩
theorem k_divW {i j : Int} (hc : CDivW i j) (h : Q (.int (i / j)) H) : xDivW (.int i) (.int j) H Q := ⟨i, j, rfl, rfl, hc, h⟩
theorem k_mod {i j : Int} (hc : 0 < j) (h : Q (.int (i % j)) H) : xMod (.int i) (.int j) H Q := ⟨i, j, rfl, rfl, hc, h⟩
theorem k_pow {i j : Int} (hc : CPow i j) (h : Q (.int (i ^ j.toNat)) H) : xPow (.int i) (.int j) H Q := ⟨i, j, rfl, rfl, hc, h⟩
theorem k_lt {i j : Int} (h : Q (.bl (decide (i < j))) H) : xLt (.int i) (.int j) H Q := ⟨i, j, rfl, rfl, h⟩
theorem k_le {i j : Int} (h : Q (.bl (decide (i ≤ j))) H) : xLe (.int i) (.int j) H Q := ⟨i, j, rfl, rfl, h⟩
theorem k_gt {i j : Int} (h : Q (.bl (decide (j < i))) H) : xGt (.int i) (.int j) H Q := ⟨i, j, rfl, rfl, h⟩
theorem k_ge {i j : Int} (h : Q (.bl (decide (j ≤ i))) H) : xGe (.int i) (.int j) H Q := ⟨i, j, rfl, rfl, h⟩
theorem k_neg {i : Int} (h : Q (.int (-i)) H) : xNeg (.int i) H Q := ⟨i, rfl, h⟩
theorem k_U {g : Int → V} {i : Int} (h : Q (g i) H) : rU g (.int i) H Q := ⟨i, rfl, h⟩
theorem k_eqI {i j : Int} (h : Q (.bl (decide (i = j))) H) : rEq (.int i) (.int j) H Q := ⟨rfl, by
  have e : decide (V.int i = V.int j) = decide (i = j) := by
    by_cases c : i = j
    · rw [decide_eq_true c, decide_eq_true (by rw [c])]
    · rw [decide_eq_false c, decide_eq_false (fun z => c (V.int.inj z))]
  rw [e]; exact h⟩
theorem k_neI {i j : Int} (h : Q (.bl (!decide (i = j))) H) : rNe (.int i) (.int j) H Q := ⟨rfl, by
  have e : decide (V.int i = V.int j) = decide (i = j) := by
    by_cases c : i = j
    · rw [decide_eq_true c, decide_eq_true (by rw [c])]
    · rw [decide_eq_false c, decide_eq_false (fun z => c (V.int.inj z))]
  rw [e]; exact h⟩
theorem k_test (h : te σ H fun x H1 => ∃ k, x = .bl k ∧ QT k H1) : tTest te σ H QT := h
theorem k_B (h : te σ H fun x H1 => ∃ k, x = .bl k ∧ QT k H1) : tB te σ H QT := h
theorem k_bl {b : Bool} {R : Bool → Prop} (h : R b) : ∃ k, V.bl b = .bl k ∧ R k := ⟨b, rfl, h⟩
theorem k_and (h : t σ H fun c H1 => if c = true then u σ H1 QT else QT false H1) : tAnd t u σ H QT := h
theorem k_or (h : t σ H fun c H1 => if c = true then QT true H1 else u σ H1 QT) : tOr t u σ H QT := h
theorem k_not (h : t σ H fun c H1 => QT (!c) H1) : tNot t σ H QT := h
theorem k_notV (h : ta σ H fun x H1 => ∃ c, x = .bl c ∧ Q (.bl (!c)) H1) : tNotV ta σ H Q := h
theorem k_andV (h : ta σ H fun x H1 => ∃ c, x = .bl c ∧ if c = true then tb σ H1 Q else Q (.bl false) H1) : tAndV ta tb σ H Q := h
theorem k_orV (h : ta σ H fun x H1 => ∃ c, x = .bl c ∧ if c = true then Q (.bl true) H1 else tb σ H1 Q) : tOrV ta tb σ H Q := h
theorem k_cb {r : List V → Hp → VK → Prop} (h : tr σ H fun vs H1 => r vs H1 Q) : tCB r tr σ H Q := h
theorem k_nil (h : QA [] H) : tNil σ H QA := h
theorem k_cons (h : ta σ H fun x H1 => tr σ H1 fun xs H2 => QA (x :: xs) H2) : tCons ta tr σ H QA := h
theorem k_call {sp : Sp} {dvs : List V} {E : XK} (h : tr σ H fun vs H1 => sp (vs ++ dvs) H1 Q E) : tCall sp dvs E tr σ H Q := h
theorem k_len {p : Addr} {ys : List V} (hs : SqL K H p ys) (h : Q (.int ys.length) H) : rLenX K [.ref p] H Q := ⟨p, ys, rfl, .inl hs, h⟩
theorem k_len0 {p : Addr} (hs : H p = some (.lst [])) (h : Q (.int 0) H) : rLenX K [.ref p] H Q := ⟨p, [], rfl, .inl (sl hs), h⟩
theorem k_lenT {p : Addr} {ys : List V} (hs : SqT K H p ys) (h : Q (.int ys.length) H) : rLenX K [.ref p] H Q := ⟨p, ys, rfl, .inr hs, h⟩
theorem k_lenI {p : Addr} {ns : List Int} (hs : SqL K H p (ns.map V.int)) (h : Q (.int ns.length) H) : rLenX K [.ref p] H Q := ⟨p, _, rfl, .inl hs, by rw [List.length_map]; exact h⟩
theorem k_list {p : Addr} {ys : List V} (hs : SqL K H p ys) (h : ∀ l, H l = none → Q (.ref l) (upd H l (.lst ys))) : rListOf K [.ref p] H Q := ⟨p, ys, rfl, .inl hs, h⟩
theorem k_lst (h : tr σ H fun xs H1 => xs.length ≤ sizeLine ∧ ∀ p, H1 p = none → Q (.ref p) (upd H1 p (.lst xs))) : tLst tr σ H Q := h
theorem k_tup (h : tr σ H fun xs H1 => xs.length ≤ sizeLine ∧ ∀ p, H1 p = none → Q (.ref p) (upd H1 p (.tup xs))) : tTup tr σ H Q := h
theorem k_new {xs : List V} {R : Addr → Prop} (hn : xs.length ≤ 100000) (h : ∀ p, H p = none → R p) : xs.length ≤ sizeLine ∧ ∀ p, H p = none → R p := ⟨sz hn, h⟩
theorem k_gtup {n : Nat} {g : TGs} {a : Addr} {xs : List V} (hs : SqT K H a xs) (hn : xs.length = n) (h : g xs σ H QS) : gTup K n g (.ref a) σ H QS := ⟨a, xs, rfl, hs, hn, h⟩
theorem k_gunl {n : Nat} {g : TGs} {a : Addr} {xs : List V} (hs : SqL K H a xs) (hn : xs.length = n) (h : g xs σ H QS) : gUnl K n g (.ref a) σ H QS := ⟨a, xs, rfl, hs, hn, h⟩
theorem k_gcons {g : TG} {gs : TGs} {v : V} {r : List V} (h : g v σ H fun σ' H' => gs r σ' H' QS) : gCons g gs (v :: r) σ H QS := ⟨v, r, rfl, h⟩
theorem k_gnil (h : QS σ H) : gNil [] σ H QS := ⟨rfl, h⟩
theorem k_gname {i : Nat} {v : V} (h : QS (σ.set i (some v)) H) : gName i v σ H QS := h
theorem k_gsub {to ti : TE} {ts : TSet} {v : V} (h : to σ H fun o H1 => ti σ H1 fun i H2 => ts o i v H2 fun H3 => QS σ H3) : gSub to ti ts v σ H QS := h
theorem k_setL {p : Addr} {xs : List V} {k : Int} {j : Nat} {v : V} {QH : Hp → Prop} (hp : H p = some (.lst xs)) (hj : ixN xs.length k = some j) (h : QH (upd H p (.lst (xs.set j v)))) : rSetL (.ref p) (.int k) v H QH := ⟨p, xs, k, j, rfl, rfl, hp, hj, h⟩
theorem k_ixL {p : Addr} {xs : List V} {i : Int} {v : V} (hs : SqL K H p xs) (ha : atI xs i = some v) (h : Q v H) : rIxL K (.ref p) (.int i) H Q := ⟨p, xs, i, v, rfl, rfl, hs, ha, h⟩
theorem k_ixT {p : Addr} {xs : List V} {i : Int} {v : V} (hs : SqT K H p xs) (ha : atI xs i = some v) (h : Q v H) : rIxT K (.ref p) (.int i) H Q := ⟨p, xs, i, v, rfl, rfl, hs, ha, h⟩
theorem k_min {p : Addr} {ns : List Int} (hs : SqL K H p (ns.map V.int)) (h0 : 0 < ns.length) (h : ∀ m, m ∈ ns → (∀ y, y ∈ ns → m ≤ y) → Q (.int m) H) : rMin K [.ref p] H Q := ⟨p, ns, rfl, hs, h0, h⟩
theorem k_max {p : Addr} {ns : List Int} (hs : SqL K H p (ns.map V.int)) (h0 : 0 < ns.length) (h : ∀ m, m ∈ ns → (∀ y, y ∈ ns → y ≤ m) → Q (.int m) H) : rMax K [.ref p] H Q := ⟨p, ns, rfl, hs, h0, h⟩
theorem k_popI {p : Addr} {ns : List Int} {i : Int} (hp : H p = some (.lst (ns.map V.int))) (h0 : 0 ≤ i) (h1 : i < ns.length) (h2 : i < 1000000) (h : Q (.int (ns.getD i.toNat 0)) (upd H p (.lst ((ns.eraseIdx i.toNat).map V.int)))) : rPopAt (.ref p) [.int i] H Q := by
  refine ⟨p, _, i, i.toNat, .int (ns.getD i.toNat 0), rfl, rfl, hp, by omega, by omega, ?_, ?_, ?_⟩
  · exact (ixN_seq (ixN_of h0 (by rw [List.length_map]; exact h1))).1
  · have hh : i.toNat < ns.length := by omega
    rw [List.getElem?_map, List.getElem?_eq_getElem hh]
    simp [List.getD_eq_getElem?_getD, List.getElem?_eq_getElem hh]
  · have e : (ns.map V.int).eraseIdx i.toNat = (ns.eraseIdx i.toNat).map V.int := map_erase ns _
    rw [e]; exact h
theorem k_sortedI {a : Addr} {ns : List Int} (hs : SqL K H a (ns.map V.int)) (h : ∀ (ns' : List Int) (p : Addr), ns'.Perm ns → ns'.Pairwise (· ≤ ·) → H p = none → Q (.ref p) (upd H p (.lst (ns'.map V.int)))) : rSortedI K [.ref a] H Q := ⟨a, ns, rfl, hs, h⟩
theorem k_max2 {i j : Int} (h : Q (.int (if j > i then j else i)) H) : rMax2 [.int i, .int j] H Q := ⟨i, j, rfl, h⟩
theorem k_min2 {i j : Int} (h : Q (.int (if j < i then j else i)) H) : rMin2 [.int i, .int j] H Q := ⟨i, j, rfl, h⟩
theorem k_bm {T : String} {r : V → List V → Hp → VK → Prop} (h : ta σ H fun x H1 => tyV K T x H1 ∧ tr σ H1 fun xs H2 => r x xs H2 Q) : tBM K T r ta tr σ H Q := h
theorem k_bm0 {T : String} {r : V → List V → Hp → VK → Prop} (h : ta σ H fun x H1 => tyV K T x H1 ∧ r x [] H1 Q) : tBM0 K T r ta σ H Q := h
theorem k_cat {p q : Addr} {xs ys : List V} (hp : H p = some (.lst xs)) (hq : H q = some (.lst ys)) (hz : xs.length + ys.length ≤ 100000) (h : ∀ l, H l = none → Q (.ref l) (upd H l (.lst (xs ++ ys)))) : rCat (.ref p) (.ref q) H Q := ⟨p, q, xs, ys, rfl, rfl, hp, hq, sz hz, h⟩
theorem k_tyL {p : Addr} {xs : List V} {R : Prop} (hp : SqL K H p xs) (h : R) : tyV K "list" (.ref p) H ∧ R := ⟨.inl ⟨rfl, _, hp⟩, h⟩
theorem k_append {p : Addr} {xs : List V} {y : V} (hp : H p = some (.lst xs)) (hn : xs.length < 100000) (h : Q .non (upd H p (.lst (xs ++ [y])))) : rAppend (.ref p) [y] H Q := ⟨p, xs, y, rfl, rfl, hp, szl hn, h⟩
theorem k_itT {b : Bool} {A B : Prop} (e : b = true) (h : A) : if b = true then A else B := by rw [if_pos e]; exact h
theorem k_itF {b : Bool} {A B : Prop} (e : b = false) (h : B) : if b = true then A else B := by rw [e]; exact h
theorem iteNT {A B : Prop} (h : B) : if (!true) = true then A else B := iteF h
theorem iteNF {A B : Prop} (h : A) : if (!false) = true then A else B := iteT h
theorem k_itDT {c A B : Prop} [Decidable c] (e : c) (h : A) : if decide c = true then A else B := by rw [if_pos (decide_eq_true e)]; exact h
theorem k_itDF {c A B : Prop} [Decidable c] (e : ¬ c) (h : B) : if decide c = true then A else B := by rw [decide_eq_false e]; exact h
theorem k_itNT {c A B : Prop} [Decidable c] (e : ¬ c) (h : A) : if (!decide c) = true then A else B := by rw [decide_eq_false e]; exact h
theorem k_itNF {c A B : Prop} [Decidable c] (e : c) (h : B) : if (!decide c) = true then A else B := by rw [decide_eq_true e]; exact h
theorem k_for {nx : L2.St → Hp → Prop} {rt : VK} {bk ct : L2.St → Hp → Prop} {wi : TI} {g : TG} {tb : TS} (h : wi σ H fun J H1 => ∃ W : Nat → Nat → L2.St → Hp → Prop, (∃ m, W 0 m σ H1) ∧ ∀ i m σ H, W i m σ H →
  (J.stop i H ∧ nx σ H) ∨ (J.go i H ∧ ∃ N : L2.St → Hp → Prop, (∀ σ' H', N σ' H' → ∃ m', m' < m ∧ W (i + 1) m' σ' H') ∧ ∀ x H', J.yld i H x H' → g x σ H' fun σ2 H2 => tb ⟨N, rt, nx, N⟩ σ2 H2)) : tFor wi g tb ⟨nx, rt, bk, ct⟩ σ H := h
theorem forL {nx : L2.St → Hp → Prop} {rt : VK} {b : Addr} {xs : List V} {g : TG} {tb : TS} (hs0 : SqL K H b xs) (Pv : Nat → L2.St → Hp → Prop) (h0 : Pv 0 σ H) (hl : ∀ i σ H, i ≤ xs.length → Pv i σ H → SqL K H b xs)
    (hs : ∀ (i : Nat) x σ H, xs[i]? = some x → Pv i σ H → g x σ H fun σ2 H2 => tb ⟨Pv (i + 1), rt, nx, Pv (i + 1)⟩ σ2 H2) (hd : ∀ σ H, Pv xs.length σ H → nx σ H) :
    ∃ a, V.ref b = .ref a ∧ (∃ xs, SqL K H a xs) ∧ ∃ W : Nat → Nat → L2.St → Hp → Prop, (∃ m, W 0 m σ H) ∧ ∀ i m σ H, W i m σ H →
      ((Itl K a).stop i H ∧ nx σ H) ∨ ((Itl K a).go i H ∧ ∃ N : L2.St → Hp → Prop, (∀ σ' H', N σ' H' → ∃ m', m' < m ∧ W (i + 1) m' σ' H') ∧ ∀ x H', (Itl K a).yld i H x H' → g x σ H' fun σ2 H2 => tb ⟨N, rt, nx, N⟩ σ2 H2) :=
  ⟨b, rfl, ⟨xs, hs0⟩, for_list (D := ⟨nx, rt, fun _ _ => False, fun _ _ => False⟩) Pv h0 hl hs hd⟩
theorem forR {nx : L2.St → Hp → Prop} {rt : VK} {lo : Int} {n : Nat} {g : TG} {tb : TS} (Pv : Nat → L2.St → Hp → Prop) (h0 : Pv 0 σ H)
    (hs : ∀ (i : Nat) σ H, i < n → Pv i σ H → g (.int (lo + i)) σ H fun σ2 H2 => tb ⟨Pv (i + 1), rt, nx, Pv (i + 1)⟩ σ2 H2) (hd : ∀ σ H, Pv n σ H → nx σ H) :
    ∃ W : Nat → Nat → L2.St → Hp → Prop, (∃ m, W 0 m σ H) ∧ ∀ i m σ H, W i m σ H →
      ((Itr lo n).stop i H ∧ nx σ H) ∨ ((Itr lo n).go i H ∧ ∃ N : L2.St → Hp → Prop, (∀ σ' H', N σ' H' → ∃ m', m' < m ∧ W (i + 1) m' σ' H') ∧ ∀ x H', (Itr lo n).yld i H x H' → g x σ H' fun σ2 H2 => tb ⟨N, rt, nx, N⟩ σ2 H2) :=
  for_range (D := ⟨nx, rt, fun _ _ => False, fun _ _ => False⟩) Pv h0 hs hd
theorem k_while {nx : L2.St → Hp → Prop} {rt : VK} {bk ct : L2.St → Hp → Prop} {c : TT} {tb : TS} (h : ∃ W : Nat → L2.St → Hp → Prop, (∃ m, W m σ H) ∧ ∀ m σ H, W m σ H →
  c σ H fun b H1 => if b = true then ∃ N : L2.St → Hp → Prop, (∀ σ' H', N σ' H' → ∃ m', m' < m ∧ W m' σ' H') ∧ tb ⟨N, rt, nx, N⟩ σ H1 else nx σ H1) : tWhile c tb ⟨nx, rt, bk, ct⟩ σ H := h
theorem whileW {nx : L2.St → Hp → Prop} {rt : VK} {bk ct : L2.St → Hp → Prop} {c : TT} {tb : TS} (W : Nat → L2.St → Hp → Prop) {m0 : Nat} (h0 : W m0 σ H)
    (hs : ∀ m σ H, W m σ H → c σ H fun b H1 => if b = true then tb ⟨fun σ' H' => ∃ m', m' < m ∧ W m' σ' H', rt, nx, fun σ' H' => ∃ m', m' < m ∧ W m' σ' H'⟩ σ H1 else nx σ H1)
    (mono : ∀ σ H (Q Q' : Bool → Hp → Prop), (∀ b H1, Q b H1 → Q' b H1) → c σ H Q → c σ H Q') : tWhile c tb ⟨nx, rt, bk, ct⟩ σ H := by
  refine ⟨W, ⟨m0, h0⟩, fun m σ H w => mono σ H _ _ (fun b H1 q => ?_) (hs m σ H w)⟩
  cases b with
  | true => exact ⟨_, fun σ' H' h => h, q⟩
  | false => exact q
theorem k_iList {R : It → Hp → Prop} (h : te σ H fun x H1 => ∃ a, x = .ref a ∧ (∃ xs, SqL K H1 a xs) ∧ R (Itl K a) H1) : iList K te σ H R := h
theorem k_iTup {R : It → Hp → Prop} (h : te σ H fun x H1 => ∃ a, x = .ref a ∧ (∃ xs, SqT K H1 a xs) ∧ R (Itt K a) H1) : iTup K te σ H R := h
theorem k_iZip {R : It → Hp → Prop} (h : tr σ H fun vs H1 => ∃ a b xs ys, vs = [.ref a, .ref b] ∧ SqL K H1 a xs ∧ SqL K H1 b ys ∧ R (Itz K a b) H1) : iZip K tr σ H R := h
theorem k_iEnum {R : It → Hp → Prop} (h : tr σ H fun vs H1 => ∃ a xs, vs = [.ref a] ∧ SqL K H1 a xs ∧ R (Ite K a) H1) : iEnum K tr σ H R := h
theorem k_iRng1 {R : It → Hp → Prop} (h : tr σ H fun vs H1 => ∃ j : Int, vs = [.int j] ∧ -(2 ^ 62) ≤ j ∧ j < 2 ^ 62 ∧ R (Itr 0 j.toNat) H1) : iRng1 tr σ H R := h
theorem k_iRng2 {R : It → Hp → Prop} (h : tr σ H fun vs H1 => ∃ i j : Int, vs = [.int i, .int j] ∧ (-(2 ^ 62) ≤ i ∧ i < 2 ^ 62 ∧ -(2 ^ 62) ≤ j ∧ j < 2 ^ 62) ∧ R (Itr i (j - i).toNat) H1) : iRng2 tr σ H R := h
theorem k_rj1 {j : Int} {R : Int → Prop} (h1 : -(2 ^ 62) ≤ j) (h2 : j < 2 ^ 62) (h : R j) : ∃ j' : Int, [V.int j] = [.int j'] ∧ -(2 ^ 62) ≤ j' ∧ j' < 2 ^ 62 ∧ R j' := ⟨j, rfl, h1, h2, h⟩
theorem k_rj2 {i j : Int} {R : Int → Int → Prop} (h1 : -(2 ^ 62) ≤ i ∧ i < 2 ^ 62 ∧ -(2 ^ 62) ≤ j ∧ j < 2 ^ 62) (h : R i j) : ∃ i' j' : Int, [V.int i, V.int j] = [.int i', .int j'] ∧ (-(2 ^ 62) ≤ i' ∧ i' < 2 ^ 62 ∧ -(2 ^ 62) ≤ j' ∧ j' < 2 ^ 62) ∧ R i' j' := ⟨i, j, rfl, h1, h⟩
theorem k_it {c A B : Prop} [Decidable c] (h1 : c → A) (h2 : ¬ c → B) : if decide c = true then A else B := by
  by_cases h : c
  · rw [if_pos (decide_eq_true h)]; exact h1 h
  · rw [decide_eq_false h]; exact h2 h
theorem k_itn {c A B : Prop} [Decidable c] (h1 : ¬ c → A) (h2 : c → B) : if (!decide c) = true then A else B := by
  by_cases h : c
  · rw [decide_eq_true h]; exact h2 h
  · rw [decide_eq_false h]; exact h1 h
theorem k_itb {b : Bool} {A B : Prop} (h1 : b = true → A) (h2 : b = false → B) : if b = true then A else B := by
  cases b with
  | true => exact h1 rfl
  | false => exact h2 rfl
theorem k_isi {x : V} {c : String} {tx : String} {b : Bool} (ht : TyX K H x (.type tx)) (hb : kitB tx c = some b) (h : Q (.bl b) H) : rIsi K [x, .ty c] H Q := ⟨x, .ty c, .type tx, .type c, b, rfl, .ty c, ht, kit_ty hb, h⟩

theorem ty_list {p : Addr} {xs : List V} (h : SqL K H p xs) : TyX K H (.ref p) (.type "list") := by
  rcases h with (h | ⟨o, h⟩) | ⟨o, its, n, h, c, _⟩
  · exact .base (.lst h)
  · exact .base (.frz h)
  · exact .kList h c
theorem k_isiL {p : Addr} {xs : List V} (hs : SqL K H p xs) (h : Q (.bl true) H) : rIsi K [.ref p, .ty "list"] H Q := k_isi (ty_list hs) (by decide +kernel) h
theorem k_isiLI {i : Int} (h : Q (.bl false) H) : rIsi K [.int i, .ty "list"] H Q := k_isi (.base (.int i)) (by decide +kernel) h
theorem k_isiI {i : Int} (h : Q (.bl true) H) : rIsi K [.int i, .ty "int"] H Q := k_isi (.base (.int i)) (by decide +kernel) h
theorem k_isiB {i : Int} (h : Q (.bl false) H) : rIsi K [.int i, .ty "bool"] H Q := k_isi (.base (.int i)) (by decide +kernel) h
theorem inV_ints (x : Int) : ∀ ns : List Int, inV (.int x) (ns.map V.int) = decide (x ∈ ns)
  | [] => rfl
  | n :: r => by
    show (eqV (.int n) (.int x) || inV (.int x) (r.map V.int)) = decide (x ∈ n :: r)
    rw [inV_ints x r]
    show ((n == x) || decide (x ∈ r)) = decide (x ∈ n :: r)
    by_cases h : n = x
    · subst h; simp
    · have : (n == x) = false := by simp [h]
      rw [this, Bool.false_or]
      have h' : ¬ x = n := fun e => h e.symm
      simp [h']
theorem flat_ints : ∀ ns : List Int, (ns.map V.int).all flatV = true
  | [] => rfl
  | _ :: r => by show (true && (r.map V.int).all flatV) = true; rw [flat_ints r]; rfl
theorem k_inI {p : Addr} {ns : List Int} {x : Int} (hs : SqL K H p (ns.map V.int)) (h : Q (.bl (decide (x ∈ ns))) H) : rIn K false (.int x) (.ref p) H Q :=
  ⟨p, _, rfl, .inl hs, rfl, flat_ints ns, by rw [if_neg Bool.false_ne_true, inV_ints]; exact h⟩
theorem k_notInI {p : Addr} {ns : List Int} {x : Int} (hs : SqL K H p (ns.map V.int)) (h : Q (.bl (!decide (x ∈ ns))) H) : rIn K true (.int x) (.ref p) H Q :=
  ⟨p, _, rfl, .inl hs, rfl, flat_ints ns, by rw [if_pos rfl, inV_ints]; exact h⟩
theorem k_intB {b : Bool} (h : Q (.int (if b then 1 else 0)) H) : rIntOf [.bl b] H Q := .inr ⟨b, rfl, h⟩
theorem at_int {ns : List Int} {i : Int} (h0 : 0 ≤ i) (h1 : i < ns.length) : atI (ns.map V.int) i = some (.int (ns.getD i.toNat 0)) := by
  obtain ⟨k, rfl⟩ : ∃ k : Nat, i = k := ⟨i.toNat, by omega⟩
  have h : k < ns.length := by omega
  refine atI_nat ?_
  rw [List.getElem?_map]
  simp [List.getElem?_eq_getElem h, List.getD_eq_getElem?_getD]
theorem k_ixI {p : Addr} {ns : List Int} {i : Int} (hs : SqL K H p (ns.map V.int)) (h0 : 0 ≤ i) (h1 : i < ns.length) (h : Q (.int (ns.getD i.toNat 0)) H) : rIxL K (.ref p) (.int i) H Q := k_ixL hs (at_int h0 h1) h
theorem k_eqD {x y : V} {c d : PyData} {n : Nat} (hx : Dp K H x c) (hy : Dp K H y d) (h1 : Sh n c) (h2 : Sh n d) (hn : n ≤ 64) (h : Q (.bl (PyData.eqv c d)) H) : rEqD K x y H Q := ⟨c, d, hx, hy, h1.shaped hn, h2.shaped hn, h⟩
theorem k_neD {x y : V} {c d : PyData} {n : Nat} (hx : Dp K H x c) (hy : Dp K H y d) (h1 : Sh n c) (h2 : Sh n d) (hn : n ≤ 64) (h : Q (.bl (!PyData.eqv c d)) H) : rNeD K x y H Q := ⟨c, d, hx, hy, h1.shaped hn, h2.shaped hn, h⟩
theorem k_neD0 {x y : V} {c : PyData} {n : Nat} (hx : Dp K H x c) (hy : Dp K H y c) (h1 : Sh n c) (hn : n ≤ 64) (h : Q (.bl false) H) : rNeD K x y H Q := k_neD hx hy h1 h1 hn (by rw [h1.refl]; exact h)
theorem k_eqD1 {x y : V} {c : PyData} {n : Nat} (hx : Dp K H x c) (hy : Dp K H y c) (h1 : Sh n c) (hn : n ≤ 64) (h : Q (.bl true) H) : rEqD K x y H Q := k_eqD hx hy h1 h1 hn (by rw [h1.refl]; exact h)
theorem k_getI {p : Addr} {ns : List Int} {i : Int} (hs : SqL K H p (ns.map V.int)) (h0 : 0 ≤ i) (h1 : i < ns.length) (h : Q (.int (ns.getD i.toNat 0)) H) : rGetL K (.ref p) (.int i) H Q := ⟨p, _, i, _, rfl, rfl, hs, h0, at_int h0 h1, h⟩
theorem k_setI {p : Addr} {ns : List Int} {k v : Int} {QH : Hp → Prop} (hp : H p = some (.lst (ns.map V.int))) (h0 : 0 ≤ k) (h1 : k < ns.length) (h : QH (upd H p (.lst ((ns.set k.toNat v).map V.int)))) : rSetL (.ref p) (.int k) (.int v) H QH :=
  ⟨p, _, k, k.toNat, rfl, rfl, hp, ixN_of h0 (by rw [List.length_map]; exact h1), by rw [List.map_set] at h; exact h⟩
theorem k_rep {p : Addr} {xs : List V} {k : Int} (hp : H p = some (.lst xs)) (h0 : 0 ≤ k) (h1 : k < 100000) (h2 : xs.length * k.toNat ≤ 100000) (h : ∀ l, H l = none → Q (.ref l) (upd H l (.lst (List.replicate k.toNat xs).flatten))) : rRep (.ref p) (.int k) H Q := ⟨p, k, xs, rfl, rfl, hp, by omega, by omega, sz h2, h⟩
theorem k_eqB {a b : Bool} (h : Q (.bl (decide (a = b))) H) : rEq (.bl a) (.bl b) H Q := ⟨rfl, by
  have e : decide (V.bl a = V.bl b) = decide (a = b) := by cases a <;> cases b <;> decide
  rw [e]; exact h⟩
theorem k_neB {a b : Bool} (h : Q (.bl (!decide (a = b))) H) : rNe (.bl a) (.bl b) H Q := ⟨rfl, by
  have e : decide (V.bl a = V.bl b) = decide (a = b) := by cases a <;> cases b <;> decide
  rw [e]; exact h⟩
/-- new objects, the heap behind as a letter -/
theorem k_newL {xs : List V} (hn : xs.length ≤ 100000) (h : ∀ p H', H p = none → Same H H' → H' p = some (.lst xs) → Q (.ref p) H') : xs.length ≤ sizeLine ∧ ∀ p, H p = none → Q (.ref p) (upd H p (.lst xs)) :=
  ⟨sz hn, fun p np => h p _ np (same_new np) upd_same⟩
theorem k_newT {xs : List V} (hn : xs.length ≤ 100000) (h : ∀ p H', H p = none → Same H H' → H' p = some (.tup xs) → Q (.ref p) H') : xs.length ≤ sizeLine ∧ ∀ p, H p = none → Q (.ref p) (upd H p (.tup xs)) :=
  ⟨sz hn, fun p np => h p _ np (same_new np) upd_same⟩
theorem k_listN {p : Addr} {ys : List V} (hs : SqL K H p ys) (h : ∀ l H', H l = none → Same H H' → H' l = some (.lst ys) → Q (.ref l) H') : rListOf K [.ref p] H Q := k_list hs fun l nl => h l _ nl (same_new nl) upd_same
theorem k_slL {a : Addr} {xs : List V} {lo hi : Option Int} (hs : SqL K H a xs) (h : ∀ p H', H p = none → Same H H' → H' p = some (.lst (cutV xs lo hi)) → Q (.ref p) H') : rSlL K (.ref a) lo hi H Q := ⟨a, xs, rfl, hs, fun p np => h p _ np (same_new np) upd_same⟩
theorem k_sl {r : V → Option Int → Option Int → Hp → VK → Prop} {tl th : TO} (h : te σ H fun x H1 => tl σ H1 fun l H2 => th σ H2 fun u H3 => r x l u H3 Q) : tSl r te tl th σ H Q := h
theorem k_nopart {QO : Option Int → Hp → Prop} (h : QO none H) : tNoPart σ H QO := h
theorem k_part {QO : Option Int → Hp → Prop} (h : te σ H fun x H1 => ∃ i, x = .int i ∧ QO (some i) H1) : tPart te σ H QO := h
theorem k_int {i : Int} {R : Int → Prop} (h : R i) : ∃ j, V.int i = .int j ∧ R j := ⟨i, rfl, h⟩
theorem rg_ints (a b : Int) : rgV a b = ((List.range (b - a).toNat).map fun i => a + (i : Nat)).map V.int := by
  unfold rgV; rw [List.map_map]; rfl
theorem k_listRg {tg : L2.St → Hp → (Int → Int → Hp → Prop) → Prop} (h : tg σ H fun a b H1 => RgOk a b ∧ ∀ q, H1 q = none → Q (.ref q) (upd H1 q (.lst (rgV a b)))) : tLstRg tg σ H Q := h
theorem k_rg1 {QR : Int → Int → Hp → Prop} (h : ta σ H fun x H1 => ∃ n, x = .int n ∧ QR 0 n H1) : tRg1 ta σ H QR := h
theorem k_rg2 {QR : Int → Int → Hp → Prop} (h : ta σ H fun x H1 => tb σ H1 fun y H2 => ∃ i j, x = .int i ∧ y = .int j ∧ QR i j H2) : tRg2 ta tb σ H QR := h
theorem k_int2 {i j : Int} {R : Int → Int → Prop} (h : R i j) : ∃ i' j', V.int i = .int i' ∧ V.int j = .int j' ∧ R i' j' := ⟨i, j, rfl, rfl, h⟩
theorem k_rgN {a b : Int} (hr : RgOk a b) (h : ∀ p H', H p = none → Same H H' → H' p = some (.lst (rgV a b)) → Q (.ref p) H') : RgOk a b ∧ ∀ q, H q = none → Q (.ref q) (upd H q (.lst (rgV a b))) := ⟨hr, fun q nq => h q _ nq (same_new nq) upd_same⟩
theorem dp_of_int {i j : Int} (e : i = j) : Dp K H (.int i) (.int j) := e ▸ .int i
end
/-! ### heaps with some places out of sight -/
def hid (S : List Addr) (H : Hp) : Hp := fun b => if b ∈ S then none else H b
theorem hid_ne {S : List Addr} {H : Hp} {b : Addr} (h : b ∉ S) : hid S H b = H b := if_neg h
theorem hid_in {S : List Addr} {H : Hp} {b : Addr} (h : b ∈ S) : hid S H b = none := if_pos h
theorem hid_some {S : List Addr} {H : Hp} {b : Addr} {o : HO} (h : hid S H b = some o) : b ∉ S ∧ H b = some o := by
  unfold hid at h
  split at h
  · cases h
  · exact ⟨by assumption, h⟩
theorem hid_same (S : List Addr) (H : Hp) : Same (hid S H) H := fun b o h => (hid_some h).2
theorem hid_mono {S : List Addr} {H H' : Hp} (e : Same H H') : Same (hid S H) (hid S H') := fun b o h => by
  obtain ⟨n, h⟩ := hid_some h
  rw [hid_ne n]
  exact e b o h
theorem hid_sub {S S' : List Addr} {H : Hp} (h : ∀ a ∈ S, a ∈ S') : Same (hid S' H) (hid S H) := fun b o e => by
  obtain ⟨n, e⟩ := hid_some e
  rw [hid_ne fun z => n (h b z)]
  exact e
/-- a change at a hidden place -/
theorem hid_upd {S : List Addr} {H : Hp} {p : Addr} {o : HO} (h : p ∈ S) : hid S (upd H p o) = hid S H := by
  funext b
  unfold hid
  split
  · rfl
  · rename_i n
    rw [upd_ne fun e => n (by rw [e]; exact h)]
theorem same_hid_upd {S : List Addr} {H0 H : Hp} {p : Addr} {o : HO} (e : Same H0 (hid S H)) (h : p ∈ S) : Same H0 (hid S (upd H p o)) := by rw [hid_upd h]; exact e
/-- what the law's data says stays when a fresh object is changed -/
theorem same_hid_mut {S : List Addr} {H0 H : Hp} {p : Addr} {o : HO} (e : Same H0 (hid S H)) (h : H0 p = none) : Same H0 (hid S (upd H p o)) := fun b u hb => by
  have := e b u hb
  obtain ⟨n, q⟩ := hid_some this
  rw [hid_ne n, upd_ne (ne_of_none hb h)]
  exact q
theorem hid_more {S S' : List Addr} {H H' : Hp} (e : Same (hid S H) (hid S H')) (h : ∀ a ∈ S, a ∈ S') : Same (hid S' H) (hid S' H') := fun b o hb => by
  obtain ⟨n, q⟩ := hid_some hb
  have n' : b ∉ S := fun z => n (h b z)
  have := e b o (by rw [hid_ne n']; exact q)
  rw [hid_ne n'] at this
  rw [hid_ne n]
  exact this
theorem same_hid_new {S : List Addr} {H : Hp} {p : Addr} {o : HO} (h : H p = none) : Same (hid S H) (hid S (upd H p o)) := hid_mono (same_new h)

theorem same_of_hid {S : List Addr} {H0 H1 H2 : Hp} (h : Same H0 H1) (f : ∀ a ∈ S, H0 a = none) (e : Same (hid S H1) (hid S H2)) : Same H0 H2 := fun b o hb => by
  have n : b ∉ S := fun z => by rw [f b z] at hb; cases hb
  have := e b o (by rw [hid_ne n]; exact h b o hb)
  rw [hid_ne n] at this
  exact this
theorem free1 {H0 : Hp} {p : Addr} (h : H0 p = none) : ∀ a ∈ [p], H0 a = none := fun a z => by rw [List.mem_singleton.mp z]; exact h
theorem cutTo {ns : List Int} (k : Nat) : cutV (ns.map V.int) none (some (k : Int)) = (ns.take k).map V.int := by
  unfold cutV
  rw [HT.sIx_none, HT.sIx_nat, List.drop_zero, List.length_map, Nat.sub_zero, List.map_take]
  by_cases h : k ≤ ns.length
  · rw [Nat.min_eq_left h]
  · rw [Nat.min_eq_right (by omega), List.take_of_length_le (by simp), List.take_of_length_le (by simp; omega)]
/-! ### the law's purse: a list of the cells and the turn -/
structure Pu (H : Hp) (pu ce : Addr) (n : Nat) (t : Int) : Prop where
  hp : H pu = some (.lst [.ref ce, .int t])
  hc : ∃ cs : List Int, cs.length = n ∧ H ce = some (.lst (cs.map V.int))
  n0 : 0 < n
  n1 : n ≤ 63
  t0 : 0 ≤ t
theorem Pu.ne {H : Hp} {pu ce : Addr} {n : Nat} {t : Int} (h : Pu H pu ce n t) : pu ≠ ce := fun e => by
  obtain ⟨cs, hl, hc⟩ := h.hc
  have hp := h.hp
  rw [e, hc] at hp
  cases cs with
  | nil => injection hp with hp; injection hp with hp; cases hp
  | cons x r => injection hp with hp; injection hp with hp; injection hp with h1 h2; cases h1
theorem Pu.fresh {H : Hp} {pu ce : Addr} {n : Nat} {t : Int} (h : Pu H pu ce n t) {p : Addr} (np : H p = none) : p ∉ [pu, ce] := fun z => by
  obtain ⟨cs, hl, hc⟩ := h.hc
  rcases List.mem_cons.mp z with rfl | z
  · rw [h.hp] at np; cases np
  · rcases List.mem_cons.mp z with rfl | z
    · rw [hc] at np; cases np
    · cases z
theorem Pu.upd {H : Hp} {pu ce : Addr} {n : Nat} {t : Int} (h : Pu H pu ce n t) {p : Addr} {o : HO} (np : p ∉ [pu, ce]) : Pu (upd H p o) pu ce n t := by
  have h1 : pu ≠ p := fun e => np (by rw [e]; exact List.mem_cons_self)
  have h2 : ce ≠ p := fun e => np (by rw [e]; exact List.mem_cons_of_mem _ List.mem_cons_self)
  obtain ⟨cs, hl, hc⟩ := h.hc
  exact ⟨by rw [upd_ne h1]; exact h.hp, ⟨cs, hl, by rw [upd_ne h2]; exact hc⟩, h.n0, h.n1, h.t0⟩
theorem Pu.same {H H' : Hp} {pu ce : Addr} {n : Nat} {t : Int} (h : Pu H pu ce n t) (e : Same H H') : Pu H' pu ce n t := by
  obtain ⟨cs, hl, hc⟩ := h.hc
  exact ⟨e _ _ h.hp, ⟨cs, hl, e _ _ hc⟩, h.n0, h.n1, h.t0⟩
/-- an object that is none of the purse's stays as it is -/
theorem keeps {S : List Addr} {H H' : Hp} (e : Same (hid S H) (hid S H')) {b : Addr} {o : HO} (hb : H b = some o) (n : b ∉ S) : H' b = some o := by
  have := e b o (by rw [hid_ne n]; exact hb)
  rw [hid_ne n] at this
  exact this
theorem fresh_hid {S : List Addr} {H H' : Hp} (e : Same (hid S H) (hid S H')) {b : Addr} (hb : H' b = none) (n : b ∉ S) : H b = none := by
  have := e.free (l := b) (by rw [hid_ne n]; exact hb)
  rw [hid_ne n] at this
  exact this
theorem getD_set_len {α : Type} (l : List α) (i : Nat) (v : α) : (l.set i v).length = l.length := List.length_set
theorem map_set_int (cs : List Int) (i : Nat) (v : Int) : (cs.map V.int).set i (.int v) = (cs.set i v).map V.int := by rw [List.map_set]

/-! ### the law's other purse: [a number, a mark, how many were drawn] -/
structure Le (H : Hp) (pu : Addr) (k : Int) : Prop where
  hp : ∃ x f : Int, H pu = some (.lst [.int x, .int f, .int k]) ∧ (f = 0 → 0 ≤ x ∧ x < 2147483629)
  k0 : 0 ≤ k
theorem Le.fresh {H : Hp} {pu : Addr} {k : Int} (h : Le H pu k) {p : Addr} (np : H p = none) : p ∉ [pu] := fun z => by
  obtain ⟨x, f, hp, _⟩ := h.hp
  rw [List.mem_singleton.mp z, hp] at np
  cases np
theorem Le.upd {H : Hp} {pu : Addr} {k : Int} (h : Le H pu k) {p : Addr} {o : HO} (np : p ∉ [pu]) : Le (upd H p o) pu k := by
  obtain ⟨x, f, hp, hx⟩ := h.hp
  exact ⟨⟨x, f, by rw [upd_ne fun e => np (by rw [e]; exact List.mem_singleton.mpr rfl)]; exact hp, hx⟩, h.k0⟩
theorem Le.same {H H' : Hp} {pu : Addr} {k : Int} (h : Le H pu k) (e : Same H H') : Le H' pu k := by
  obtain ⟨x, f, hp, hx⟩ := h.hp
  exact ⟨⟨x, f, e _ _ hp, hx⟩, h.k0⟩

/-! ### comprehensions whose block leaves the heap as it is -/
section
variable {K : PySem.W.Frag} {σ : L2.St} {H1 : Hp} {Q : VK} {g : TG} {tt : TT} {te : TE} {vs : List Nat}
theorem k_lc {wi : TI} (h : wi σ H1 fun J H1 => ∀ D, H1 D = none → ∃ W : Nat → Nat → Hp → Prop, (∃ m, W 0 m (upd H1 D (.lst []))) ∧ ∀ i m H, W i m H →
  (J.stop i H ∧ Q (.ref D) H) ∨ (J.go i H ∧ ∃ Nx : Hp → Prop, (∀ H', Nx H' → ∃ m', m' < m ∧ W (i + 1) m' H') ∧ ∀ x H', J.yld i H x H' → g x (wipe σ vs) H' fun σ2 H2 => wipe σ2 vs = wipe σ vs ∧ tt σ2 H2 fun b H3 =>
    if b = true then te σ2 H3 fun y H4 => ∃ acc, H4 D = some (.lst acc) ∧ acc.length < sizeLine ∧ Nx (upd H4 D (.lst (acc ++ [y]))) else Nx H3)) : tLc wi g tt te vs σ H1 Q := h
theorem k_wipe {σ' : L2.St} {R : Prop} (e : wipe σ' vs = wipe σ vs) (h : R) : wipe σ' vs = wipe σ vs ∧ R := ⟨e, h⟩
theorem k_yes {QT : Bool → Hp → Prop} (h : QT true H1) : tYes σ H1 QT := h
theorem take_filterMap {α β : Type} {f : α → Option β} {ps : List α} {i : Nat} {p : α} (h : ps[i]? = some p) : (ps.take (i + 1)).filterMap f = (ps.take i).filterMap f ++ (f p).toList := by
  rw [List.take_add_one, h, List.filterMap_append]
  simp [List.filterMap_cons]
  cases f p <;> rfl
/-- over a list of which ps tells the items -/
theorem lc_pure {QD : Addr → Hp → Prop} {α : Type} {a : Addr} {xs : List V} (hs : SqL K H1 a xs) (ps : List α) (hl : xs.length = ps.length) (hz : ps.length ≤ 50000) (f : α → Option V)
    (step : ∀ (i : Nat) x p H', xs[i]? = some x → ps[i]? = some p → Same H1 H' → ∀ (R : V → Hp → Prop) (R0 : Hp → Prop), (∀ y, f p = some y → R y H') → (f p = none → R0 H') →
      g x (wipe σ vs) H' fun σ2 H2 => wipe σ2 vs = wipe σ vs ∧ tt σ2 H2 fun b H3 => if b = true then te σ2 H3 R else R0 H3)
    (h : ∀ D H', H1 D = none → Same H1 H' → H' D = some (.lst (ps.filterMap f)) → QD D H') :
    ∃ a', V.ref a = .ref a' ∧ (∃ xs, SqL K H1 a' xs) ∧ ∀ D, H1 D = none → ∃ W : Nat → Nat → Hp → Prop, (∃ m, W 0 m (upd H1 D (.lst []))) ∧ ∀ i m H, W i m H →
      ((Itl K a').stop i H ∧ QD D H) ∨ ((Itl K a').go i H ∧ ∃ Nx : Hp → Prop, (∀ H', Nx H' → ∃ m', m' < m ∧ W (i + 1) m' H') ∧ ∀ x H', (Itl K a').yld i H x H' → g x (wipe σ vs) H' fun σ2 H2 => wipe σ2 vs = wipe σ vs ∧ tt σ2 H2 fun b H3 =>
        if b = true then te σ2 H3 fun y H4 => ∃ acc, H4 D = some (.lst acc) ∧ acc.length < sizeLine ∧ Nx (upd H4 D (.lst (acc ++ [y]))) else Nx H3) := by
  refine ⟨a, rfl, ⟨xs, hs⟩, fun D nD => lc_list (xs := xs) (fun i H => Same H1 H ∧ H D = some (.lst ((ps.take i).filterMap f))) ⟨same_new nD, by rw [upd_same]; simp⟩ (fun i H _ e => e.1.seq hs) ?_ ?_⟩
  · rintro i x H hx ⟨sm, hD⟩
    have hi : i < xs.length := (List.getElem?_eq_some_iff.mp hx).1
    obtain ⟨p, hp⟩ : ∃ p, ps[i]? = some p := ⟨ps[i]'(by omega), List.getElem?_eq_getElem (by omega)⟩
    have tk := take_filterMap (f := f) hp
    refine step i x p H hx hp sm _ _ (fun y hy => ⟨_, hD, szl ?_, same_mut sm nD, ?_⟩) (fun hn => ⟨sm, ?_⟩)
    · have := List.length_filterMap_le f (ps.take i)
      rw [List.length_take] at this
      omega
    · rw [upd_same, tk, hy]; rfl
    · rw [tk, hn, hD]; simp
  · rintro H ⟨sm, hD⟩
    rw [hl, List.take_length] at hD
    exact h D H nD sm hD
/-- the same where a turn may make new objects -/
theorem lc_grow {QD : Addr → Hp → Prop} {α : Type} {a : Addr} {xs : List V} (hs : SqL K H1 a xs) (ps : List α) (hl : xs.length = ps.length) (hz : ps.length ≤ 50000) (f : α → Option V)
    (step : ∀ (i : Nat) x p H', xs[i]? = some x → ps[i]? = some p → Same H1 H' → ∀ (R : V → Hp → Prop) (R0 : Hp → Prop), (∀ y H'', f p = some y → Same H' H'' → R y H'') → (∀ H'', f p = none → Same H' H'' → R0 H'') →
      g x (wipe σ vs) H' fun σ2 H2 => wipe σ2 vs = wipe σ vs ∧ tt σ2 H2 fun b H3 => if b = true then te σ2 H3 R else R0 H3)
    (h : ∀ D H', H1 D = none → Same H1 H' → H' D = some (.lst (ps.filterMap f)) → QD D H') :
    ∃ a', V.ref a = .ref a' ∧ (∃ xs, SqL K H1 a' xs) ∧ ∀ D, H1 D = none → ∃ W : Nat → Nat → Hp → Prop, (∃ m, W 0 m (upd H1 D (.lst []))) ∧ ∀ i m H, W i m H →
      ((Itl K a').stop i H ∧ QD D H) ∨ ((Itl K a').go i H ∧ ∃ Nx : Hp → Prop, (∀ H', Nx H' → ∃ m', m' < m ∧ W (i + 1) m' H') ∧ ∀ x H', (Itl K a').yld i H x H' → g x (wipe σ vs) H' fun σ2 H2 => wipe σ2 vs = wipe σ vs ∧ tt σ2 H2 fun b H3 =>
        if b = true then te σ2 H3 fun y H4 => ∃ acc, H4 D = some (.lst acc) ∧ acc.length < sizeLine ∧ Nx (upd H4 D (.lst (acc ++ [y]))) else Nx H3) := by
  refine ⟨a, rfl, ⟨xs, hs⟩, fun D nD => lc_list (xs := xs) (fun i H => Same H1 H ∧ H D = some (.lst ((ps.take i).filterMap f))) ⟨same_new nD, by rw [upd_same]; simp⟩ (fun i H _ e => e.1.seq hs) ?_ ?_⟩
  · rintro i x H hx ⟨sm, hD⟩
    have hi : i < xs.length := (List.getElem?_eq_some_iff.mp hx).1
    obtain ⟨p, hp⟩ : ∃ p, ps[i]? = some p := ⟨ps[i]'(by omega), List.getElem?_eq_getElem (by omega)⟩
    have tk := take_filterMap (f := f) hp
    refine step i x p H hx hp sm _ _ (fun y H'' hy s2 => ⟨_, s2 _ _ hD, szl ?_, same_mut (sm.trans s2) nD, ?_⟩) (fun H'' hn s2 => ⟨sm.trans s2, ?_⟩)
    · have := List.length_filterMap_le f (ps.take i)
      rw [List.length_take] at this
      omega
    · rw [upd_same, tk, hy]; rfl
    · rw [tk, hn, s2 _ _ hD]; simp
  · rintro H ⟨sm, hD⟩
    rw [hl, List.take_length] at hD
    exact h D H nD sm hD
theorem range_take {n i : Nat} (h : i < n) : (List.range n)[i]? = some i := by simp [h]
/-- over a range -/
theorem lc_pureR {QD : Addr → Hp → Prop} {lo : Int} {n : Nat} (hz : n ≤ 50000) (f : Nat → Option V)
    (step : ∀ (i : Nat) H', i < n → Same H1 H' → ∀ (R : V → Hp → Prop) (R0 : Hp → Prop), (∀ y, f i = some y → R y H') → (f i = none → R0 H') →
      g (.int (lo + (i : Nat))) (wipe σ vs) H' fun σ2 H2 => wipe σ2 vs = wipe σ vs ∧ tt σ2 H2 fun b H3 => if b = true then te σ2 H3 R else R0 H3)
    (h : ∀ D H', H1 D = none → Same H1 H' → H' D = some (.lst ((List.range n).filterMap f)) → QD D H') :
    ∀ D, H1 D = none → ∃ W : Nat → Nat → Hp → Prop, (∃ m, W 0 m (upd H1 D (.lst []))) ∧ ∀ i m H, W i m H →
      ((Itr lo n).stop i H ∧ QD D H) ∨ ((Itr lo n).go i H ∧ ∃ Nx : Hp → Prop, (∀ H', Nx H' → ∃ m', m' < m ∧ W (i + 1) m' H') ∧ ∀ x H', (Itr lo n).yld i H x H' → g x (wipe σ vs) H' fun σ2 H2 => wipe σ2 vs = wipe σ vs ∧ tt σ2 H2 fun b H3 =>
        if b = true then te σ2 H3 fun y H4 => ∃ acc, H4 D = some (.lst acc) ∧ acc.length < sizeLine ∧ Nx (upd H4 D (.lst (acc ++ [y]))) else Nx H3) := by
  refine fun D nD => lc_range (fun i H => Same H1 H ∧ H D = some (.lst (((List.range n).take i).filterMap f))) ⟨same_new nD, by rw [upd_same]; simp⟩ ?_ ?_
  · rintro i H hi ⟨sm, hD⟩
    have tk := take_filterMap (f := f) (range_take hi)
    refine step i H hi sm _ _ (fun y hy => ⟨_, hD, szl ?_, same_mut sm nD, ?_⟩) (fun hn => ⟨sm, ?_⟩)
    · have := List.length_filterMap_le f ((List.range n).take i)
      rw [List.length_take, List.length_range] at this
      omega
    · rw [upd_same, tk, hy]; rfl
    · rw [tk, hn, hD]; simp
  · rintro H ⟨sm, hD⟩
    rw [List.take_of_length_le (by simp)] at hD
    exact h D H nD sm hD
end
/-! ### min, max of a pair -/
def rMinT (K : PySem.W.Frag) : List V → Hp → VK → Prop := fun xs H Q => ∃ (p : Addr) (a b : Int), xs = [.ref p] ∧ SqT K H p [.int a, .int b] ∧ Q (.int (min a b)) H
def rMaxT (K : PySem.W.Frag) : List V → Hp → VK → Prop := fun xs H Q => ∃ (p : Addr) (a b : Int), xs = [.ref p] ∧ SqT K H p [.int a, .int b] ∧ Q (.int (max a b)) H
theorem reads_int {h : Heap} {v : Value} {n : Int} {as : List Addr} (r : Reads h v (.int n) as) : ∃ t, v = .int n t := by
  cases r; exact ⟨_, rfl⟩
theorem alike2 (a b : Int) : PySem.W.AlikeAll [.int a, .int b] := by
  refine ⟨fun x hx y hy => ?_, fun x hx => ?_⟩
  · simp only [List.mem_cons, List.not_mem_nil, or_false] at hx hy
    rcases hx with rfl | rfl <;> rcases hy with rfl | rfl <;> rfl
  · simp only [List.mem_cons, List.not_mem_nil, or_false] at hx
    rcases hx with rfl | rfl <;> (intro z; cases z)
theorem q_minT {X : Cx} (hc : X.calm = true) (hu : X.A.units + 64 < cLine) : CallR X (.builtin "min") (rMinT X.K) := by
  intro pins s σ H vs us Q I r h
  obtain ⟨p, a, b, rfl, hs, q⟩ := h
  obtain ⟨its, rv, hl, _⟩ := I.tuple hs
  rw [Vals.ref1 r]
  have ri : IntsAre its [a, b] := Vals.ints (ns := [a, b]) rv
  refine PySem.W.min_tuple_data (x := .int a) (xs := [.int b]) (as := []) (I.ok.hd hc) hl (ri.reads _) (alike2 a b) ?_ fun i v h' tk bs hi rd hk => ?_
  · have : PyData.depthAll [.int a, .int b] = 0 := rfl
    omega
  · rw [show PySem.W.minD (.int a) [.int b] = .int (min a b) from PySem.W.minD_ints a [b]] at rd
    obtain ⟨t, rfl⟩ := reads_int rd
    exact ⟨.int _, H, I.kept hk, ⟨_, rfl⟩, q⟩
theorem q_maxT {X : Cx} (hc : X.calm = true) (hu : X.A.units + 64 < cLine) : CallR X (.builtin "max") (rMaxT X.K) := by
  intro pins s σ H vs us Q I r h
  obtain ⟨p, a, b, rfl, hs, q⟩ := h
  obtain ⟨its, rv, hl, _⟩ := I.tuple hs
  rw [Vals.ref1 r]
  have ri : IntsAre its [a, b] := Vals.ints (ns := [a, b]) rv
  refine PySem.W.max_tuple_data (x := .int a) (xs := [.int b]) (as := []) (I.ok.hd hc) hl (ri.reads _) (alike2 a b) ?_ fun i v h' tk bs hi rd hk => ?_
  · have : PyData.depthAll [.int a, .int b] = 0 := rfl
    omega
  · rw [show PySem.W.maxD (.int a) [.int b] = .int (max a b) from PySem.W.maxD_ints a [b]] at rd
    obtain ⟨t, rfl⟩ := reads_int rd
    exact ⟨.int _, H, I.kept hk, ⟨_, rfl⟩, q⟩
theorem k_minT {K : PySem.W.Frag} {H : Hp} {Q : VK} {p : Addr} {a b : Int} (hs : SqT K H p [.int a, .int b]) (h : Q (.int (min a b)) H) : rMinT K [.ref p] H Q := ⟨p, a, b, rfl, hs, h⟩
theorem k_maxT {K : PySem.W.Frag} {H : Hp} {Q : VK} {p : Addr} {a b : Int} (hs : SqT K H p [.int a, .int b]) (h : Q (.int (max a b)) H) : rMaxT K [.ref p] H Q := ⟨p, a, b, rfl, hs, h⟩
end Cm

namespace Cm
open PySem PySem.Spec PyProof.Rows L2
/-! ### steps of a reading, found by instances -/
class Stp (p : Prop) (q : outParam Prop) : Prop where
  run : q → p
class Stps (p : Prop) (q : outParam Prop) : Prop where
  run : q → p
class Stps1 (p : Prop) (q : outParam Prop) : Prop where
  run : q → p
instance (priority := low) stps_nil {p : Prop} : Stps p p := ⟨id⟩
instance (priority := high) stps_cons {p q r : Prop} [a : Stp p q] [b : Stps q r] : Stps p r := ⟨fun h => a.run (b.run h)⟩
instance stps_one {p q r : Prop} [a : Stp p q] [b : Stps q r] : Stps1 p r := ⟨fun h => a.run (b.run h)⟩
theorem go {p q : Prop} [a : Stps1 p q] (h : q) : p := a.run h
class Slot (σ : L2.St) (i : Nat) (v : outParam V) : Prop where
  get : σ[i]? = some (some v)
instance {v : V} {r : L2.St} : Slot (some v :: r) 0 v := ⟨rfl⟩
instance {x : Option V} {v : V} {r : L2.St} {i : Nat} [a : Slot r i v] : Slot (x :: r) (i + 1) v := ⟨a.get⟩
class Put (σ : L2.St) (i : Nat) (v : Option V) (σ' : outParam L2.St) : Prop where
  eq : σ.set i v = σ'
instance {x v : Option V} {r : L2.St} : Put (x :: r) 0 v (v :: r) := ⟨rfl⟩
instance {x v : Option V} {r r' : L2.St} {i : Nat} [a : Put r i v r'] : Put (x :: r) (i + 1) v (x :: r') := ⟨by rw [List.set_cons_succ, a.eq]⟩
instance {σ σ0 σ' : L2.St} {j : Nat} {w : Option V} {i : Nat} {v : Option V} [a : Put σ j w σ0] [b : Put σ0 i v σ'] : Put (List.set σ j w) i v σ' := ⟨by rw [a.eq, b.eq]⟩
instance {σ σ0 : L2.St} {j : Nat} {w : Option V} {i : Nat} {v : V} [a : Put σ j w σ0] [b : Slot σ0 i v] : Slot (List.set σ j w) i v := ⟨by rw [a.eq, b.get]⟩
class Wip (σ : L2.St) (vs : List Nat) (σ' : outParam L2.St) : Prop where
  eq : wipe σ vs = σ'
instance {σ : L2.St} : Wip σ [] σ := ⟨rfl⟩
instance {σ σ' σ'' : L2.St} {i : Nat} {vs : List Nat} [b : Wip σ vs σ'] [a : Put σ' i none σ''] : Wip σ (i :: vs) σ'' := ⟨by
  show (wipe σ vs).set i none = σ''
  rw [b.eq, a.eq]⟩
instance {σ σ0 σ' : L2.St} {vs : List Nat} {i : Nat} {v : Option V} [a : Wip σ vs σ0] [b : Put σ0 i v σ'] : Put (wipe σ vs) i v σ' := ⟨by rw [a.eq, b.eq]⟩
/-- a new list, a new tuple -/
def newL (xs : List V) (H : Hp) (Q : VK) : Prop := xs.length ≤ sizeLine ∧ ∀ p, H p = none → Q (.ref p) (upd H p (.lst xs))
def newT (xs : List V) (H : Hp) (Q : VK) : Prop := xs.length ≤ sizeLine ∧ ∀ p, H p = none → Q (.ref p) (upd H p (.tup xs))
def newR (a b : Int) (H : Hp) (Q : VK) : Prop := RgOk a b ∧ ∀ q, H q = none → Q (.ref q) (upd H q (.lst (rgV a b)))
theorem kL {xs : List V} {H : Hp} {Q : VK} (hn : xs.length ≤ 100000) (h : ∀ p H', H p = none → Same H H' → H' p = some (.lst xs) → Q (.ref p) H') : newL xs H Q := ⟨sz hn, fun p np => h p _ np (same_new np) upd_same⟩
theorem kT {xs : List V} {H : Hp} {Q : VK} (hn : xs.length ≤ 100000) (h : ∀ p H', H p = none → Same H H' → H' p = some (.tup xs) → Q (.ref p) H') : newT xs H Q := ⟨sz hn, fun p np => h p _ np (same_new np) upd_same⟩
theorem kR {a b : Int} {H : Hp} {Q : VK} (hr : RgOk a b) (h : ∀ p H', H p = none → Same H H' → H' p = some (.lst (rgV a b)) → Q (.ref p) H') : newR a b H Q := ⟨hr, fun q nq => h q _ nq (same_new nq) upd_same⟩
section
variable {K : PySem.W.Frag} {σ σ' : L2.St} {H : Hp} {D : Ends} {Q : VK} {ta tb tc te to ti : TE} {t u : TT} {s1 s2 : TS} {QT : Bool → Hp → Prop} {QA : List V → Hp → Prop} {tr : TA} {QS : L2.St → Hp → Prop} {nx bk ct : L2.St → Hp → Prop} {rt : VK} {g : TG} {gs : TGs} {i j : Nat} {v w : V} {a b : Int} {wi : TI} {tS : TS}
instance : Stp (tSeq s1 s2 ⟨nx, rt, bk, ct⟩ σ H) (s1 ⟨s2 ⟨nx, rt, bk, ct⟩, rt, bk, ct⟩ σ H) := ⟨k_seq⟩
instance : Stp (tNext ⟨nx, rt, bk, ct⟩ σ H) (nx σ H) := ⟨k_next⟩
instance : Stp (tCont ⟨nx, rt, bk, ct⟩ σ H) (ct σ H) := ⟨k_cont⟩
instance : Stp (tBreak ⟨nx, rt, bk, ct⟩ σ H) (bk σ H) := ⟨k_brk⟩
instance : Stp (tAsg te g ⟨nx, rt, bk, ct⟩ σ H) (te σ H fun x H1 => g x σ H1 nx) := ⟨k_asg⟩
instance : Stp (tDrop te ⟨nx, rt, bk, ct⟩ σ H) (te σ H fun _ H1 => nx σ H1) := ⟨k_drop⟩
instance : Stp (tRet te ⟨nx, rt, bk, ct⟩ σ H) (te σ H rt) := ⟨k_ret⟩
instance : Stp (tRetN ⟨nx, rt, bk, ct⟩ σ H) (rt .non H) := ⟨k_retN⟩
instance {f : Int → Int → Int} [e : Slot σ i (.int a)] : Stp (tAug i te (ipI f) ⟨nx, rt, bk, ct⟩ σ H) (te σ H fun y H1 => ipI f (.int a) y H1 fun z H2 => gName i z σ H2 nx) := ⟨fun h => k_aug e.get h⟩
instance {f : Int → Int → Int} : Stp (ipI f (.int a) (.int b) H Q) (Q (.int (f a b)) H) := ⟨k_ipI⟩
instance : Stp (xAugL K to ti te ⟨nx, rt, bk, ct⟩ σ H) (to σ H fun o H1 => ti σ H1 fun i H2 => rGetL K o i H2 fun x H3 => te σ H3 fun y H4 => ipI (fun i j => i + j) x y H4 fun z H5 => rSetL o i z H5 fun H6 => nx σ H6) := ⟨k_augL⟩
instance : Stp (tIfS t s1 s2 D σ H) (t σ H fun b H1 => if b = true then s1 D σ H1 else s2 D σ H1) := ⟨k_if⟩
instance [e : Slot σ i v] : Stp (tVar i σ H Q) (Q v H) := ⟨fun h => k_var e.get h⟩
instance : Stp (tC v σ H Q) (Q v H) := ⟨k_c⟩
instance {r : R2} : Stp (tOp r ta tb σ H Q) (ta σ H fun x H1 => tb σ H1 fun y H2 => r x y H2 Q) := ⟨k_op⟩
instance {r : V → Hp → VK → Prop} : Stp (tUn r ta σ H Q) (ta σ H fun x H1 => r x H1 Q) := ⟨k_un⟩
instance : Stp (xAdd (.int a) (.int b) H Q) (Q (.int (a + b)) H) := ⟨k_add⟩
instance : Stp (xSub (.int a) (.int b) H Q) (Q (.int (a - b)) H) := ⟨k_sub⟩
instance : Stp (xLt (.int a) (.int b) H Q) (Q (.bl (decide (a < b))) H) := ⟨k_lt⟩
instance : Stp (xLe (.int a) (.int b) H Q) (Q (.bl (decide (a ≤ b))) H) := ⟨k_le⟩
instance : Stp (xGt (.int a) (.int b) H Q) (Q (.bl (decide (b < a))) H) := ⟨k_gt⟩
instance : Stp (xGe (.int a) (.int b) H Q) (Q (.bl (decide (b ≤ a))) H) := ⟨k_ge⟩
instance : Stp (xNeg (.int a) H Q) (Q (.int (-a)) H) := ⟨k_neg⟩
instance : Stp (rEq (.int a) (.int b) H Q) (Q (.bl (decide (a = b))) H) := ⟨k_eqI⟩
instance : Stp (rNe (.int a) (.int b) H Q) (Q (.bl (!decide (a = b))) H) := ⟨k_neI⟩
instance {a b : Bool} : Stp (rEq (.bl a) (.bl b) H Q) (Q (.bl (decide (a = b))) H) := ⟨k_eqB⟩
instance {a b : Bool} : Stp (rNe (.bl a) (.bl b) H Q) (Q (.bl (!decide (a = b))) H) := ⟨k_neB⟩
theorem k_eqNN (h : Q (.bl true) H) : rEq .non .non H Q := ⟨rfl, h⟩
theorem k_isN0 (h : Q (.bl true) H) : xIsN .non .non H Q := ⟨rfl, h⟩
theorem k_isNr {p : Addr} (h : Q (.bl false) H) : xIsN (.ref p) .non H Q := ⟨rfl, by rw [decide_eq_false (by intro z; cases z)]; exact h⟩
theorem k_isNi (h : Q (.bl false) H) : xIsN (.int a) .non H Q := ⟨rfl, by rw [decide_eq_false (by intro z; cases z)]; exact h⟩
theorem k_notN0 (h : Q (.bl false) H) : xNotN .non .non H Q := ⟨rfl, h⟩
theorem k_notNr {p : Addr} (h : Q (.bl true) H) : xNotN (.ref p) .non H Q := ⟨rfl, by rw [decide_eq_false (by intro z; cases z)]; exact h⟩
theorem k_notNi (h : Q (.bl true) H) : xNotN (.int a) .non H Q := ⟨rfl, by rw [decide_eq_false (by intro z; cases z)]; exact h⟩
instance : Stp (xIsN .non .non H Q) (Q (.bl true) H) := ⟨k_isN0⟩
instance {p : Addr} : Stp (xIsN (.ref p) .non H Q) (Q (.bl false) H) := ⟨k_isNr⟩
instance : Stp (xIsN (.int a) .non H Q) (Q (.bl false) H) := ⟨k_isNi⟩
instance : Stp (xNotN .non .non H Q) (Q (.bl false) H) := ⟨k_notN0⟩
instance {p : Addr} : Stp (xNotN (.ref p) .non H Q) (Q (.bl true) H) := ⟨k_notNr⟩
instance : Stp (xNotN (.int a) .non H Q) (Q (.bl true) H) := ⟨k_notNi⟩
instance : Stp (tTest te σ H QT) (te σ H fun x H1 => ∃ k, x = .bl k ∧ QT k H1) := ⟨k_test⟩
instance : Stp (tB te σ H QT) (te σ H fun x H1 => ∃ k, x = .bl k ∧ QT k H1) := ⟨k_B⟩
instance {b : Bool} {R : Bool → Prop} : Stp (∃ k, V.bl b = .bl k ∧ R k) (R b) := ⟨k_bl⟩
instance {R : Int → Prop} : Stp (∃ j, V.int a = .int j ∧ R j) (R a) := ⟨k_int⟩
instance {R : Int → Int → Prop} : Stp (∃ i' j', V.int a = .int i' ∧ V.int b = .int j' ∧ R i' j') (R a b) := ⟨k_int2⟩
instance : Stp (tAnd t u σ H QT) (t σ H fun c H1 => if c = true then u σ H1 QT else QT false H1) := ⟨k_and⟩
instance : Stp (tOr t u σ H QT) (t σ H fun c H1 => if c = true then QT true H1 else u σ H1 QT) := ⟨k_or⟩
instance : Stp (tNot t σ H QT) (t σ H fun c H1 => QT (!c) H1) := ⟨k_not⟩
instance : Stp (tNotV ta σ H Q) (ta σ H fun x H1 => ∃ c, x = .bl c ∧ Q (.bl (!c)) H1) := ⟨k_notV⟩
instance : Stp (tAndV ta tb σ H Q) (ta σ H fun x H1 => ∃ c, x = .bl c ∧ if c = true then tb σ H1 Q else Q (.bl false) H1) := ⟨k_andV⟩
instance : Stp (tOrV ta tb σ H Q) (ta σ H fun x H1 => ∃ c, x = .bl c ∧ if c = true then Q (.bl true) H1 else tb σ H1 Q) := ⟨k_orV⟩
instance {r : List V → Hp → VK → Prop} : Stp (tCB r tr σ H Q) (tr σ H fun vs H1 => r vs H1 Q) := ⟨k_cb⟩
instance : Stp (tNil σ H QA) (QA [] H) := ⟨k_nil⟩
instance : Stp (tCons ta tr σ H QA) (ta σ H fun x H1 => tr σ H1 fun xs H2 => QA (x :: xs) H2) := ⟨k_cons⟩
instance {sp : Sp} {E : XK} : Stp (tCall sp [] E tr σ H Q) (tr σ H fun vs H1 => sp vs H1 Q E) := ⟨fun h => k_call (by simpa only [List.append_nil] using h)⟩
instance : Stp (tLst tr σ H Q) (tr σ H fun xs H1 => newL xs H1 Q) := ⟨k_lst⟩
instance : Stp (tTup tr σ H Q) (tr σ H fun xs H1 => newT xs H1 Q) := ⟨k_tup⟩
instance {r : List V} : Stp (gCons g gs (v :: r) σ H QS) (g v σ H fun σ' H' => gs r σ' H' QS) := ⟨k_gcons⟩
instance : Stp (gNil [] σ H QS) (QS σ H) := ⟨k_gnil⟩
instance [e : Put σ i (some v) σ'] : Stp (gName i v σ H QS) (QS σ' H) := ⟨fun h => k_gname (by rw [e.eq]; exact h)⟩
instance {ts : TSet} : Stp (gSub to ti ts v σ H QS) (to σ H fun o H1 => ti σ H1 fun i H2 => ts o i v H2 fun H3 => QS σ H3) := ⟨k_gsub⟩
instance : Stp (rMax2 [.int a, .int b] H Q) (Q (.int (if b > a then b else a)) H) := ⟨k_max2⟩
instance : Stp (rMin2 [.int a, .int b] H Q) (Q (.int (if b < a then b else a)) H) := ⟨k_min2⟩
instance {T : String} {r : V → List V → Hp → VK → Prop} : Stp (tBM K T r ta tr σ H Q) (ta σ H fun x H1 => tyV K T x H1 ∧ tr σ H1 fun xs H2 => r x xs H2 Q) := ⟨k_bm⟩
instance {T : String} {r : V → List V → Hp → VK → Prop} : Stp (tBM0 K T r ta σ H Q) (ta σ H fun x H1 => tyV K T x H1 ∧ r x [] H1 Q) := ⟨k_bm0⟩
instance {A B : Prop} {i : Decidable (true = true)} : Stp (@ite Prop (true = true) i A B) A := ⟨fun h => by rw [if_pos rfl]; exact h⟩
instance {A B : Prop} {i : Decidable (false = true)} : Stp (@ite Prop (false = true) i A B) B := ⟨fun h => by rw [if_neg (by simp)]; exact h⟩
instance {A B : Prop} {i : Decidable ((!true) = true)} : Stp (@ite Prop ((!true) = true) i A B) B := ⟨fun h => by rw [if_neg (by simp)]; exact h⟩
instance {A B : Prop} {i : Decidable ((!false) = true)} : Stp (@ite Prop ((!false) = true) i A B) A := ⟨fun h => by rw [if_pos (by simp)]; exact h⟩
instance : Stp (tFor wi g tS ⟨nx, rt, bk, ct⟩ σ H) (wi σ H fun J H1 => ∃ W : Nat → Nat → L2.St → Hp → Prop, (∃ m, W 0 m σ H1) ∧ ∀ i m σ H, W i m σ H →
  (J.stop i H ∧ nx σ H) ∨ (J.go i H ∧ ∃ N : L2.St → Hp → Prop, (∀ σ' H', N σ' H' → ∃ m', m' < m ∧ W (i + 1) m' σ' H') ∧ ∀ x H', J.yld i H x H' → g x σ H' fun σ2 H2 => tS ⟨N, rt, nx, N⟩ σ2 H2)) := ⟨k_for⟩
instance {R : It → Hp → Prop} : Stp (iList K te σ H R) (te σ H fun x H1 => ∃ a, x = .ref a ∧ (∃ xs, SqL K H1 a xs) ∧ R (Itl K a) H1) := ⟨k_iList⟩
instance {R : It → Hp → Prop} : Stp (iTup K te σ H R) (te σ H fun x H1 => ∃ a, x = .ref a ∧ (∃ xs, SqT K H1 a xs) ∧ R (Itt K a) H1) := ⟨k_iTup⟩
instance {R : It → Hp → Prop} : Stp (iZip K tr σ H R) (tr σ H fun vs H1 => ∃ a b xs ys, vs = [.ref a, .ref b] ∧ SqL K H1 a xs ∧ SqL K H1 b ys ∧ R (Itz K a b) H1) := ⟨k_iZip⟩
instance {R : It → Hp → Prop} : Stp (iEnum K tr σ H R) (tr σ H fun vs H1 => ∃ a xs, vs = [.ref a] ∧ SqL K H1 a xs ∧ R (Ite K a) H1) := ⟨k_iEnum⟩
instance {R : It → Hp → Prop} : Stp (iRng1 tr σ H R) (tr σ H fun vs H1 => ∃ j : Int, vs = [.int j] ∧ -(2 ^ 62) ≤ j ∧ j < 2 ^ 62 ∧ R (Itr 0 j.toNat) H1) := ⟨k_iRng1⟩
instance {R : It → Hp → Prop} : Stp (iRng2 tr σ H R) (tr σ H fun vs H1 => ∃ i j : Int, vs = [.int i, .int j] ∧ (-(2 ^ 62) ≤ i ∧ i < 2 ^ 62 ∧ -(2 ^ 62) ≤ j ∧ j < 2 ^ 62) ∧ R (Itr i (j - i).toNat) H1) := ⟨k_iRng2⟩
instance {vs : List Nat} : Stp (tLc wi g t te vs σ H Q) (wi σ H fun J H1 => ∀ D, H1 D = none → ∃ W : Nat → Nat → Hp → Prop, (∃ m, W 0 m (upd H1 D (.lst []))) ∧ ∀ i m H, W i m H →
  (J.stop i H ∧ Q (.ref D) H) ∨ (J.go i H ∧ ∃ Nx : Hp → Prop, (∀ H', Nx H' → ∃ m', m' < m ∧ W (i + 1) m' H') ∧ ∀ x H', J.yld i H x H' → g x (wipe σ vs) H' fun σ2 H2 => wipe σ2 vs = wipe σ vs ∧ t σ2 H2 fun b H3 =>
    if b = true then te σ2 H3 fun y H4 => ∃ acc, H4 D = some (.lst acc) ∧ acc.length < sizeLine ∧ Nx (upd H4 D (.lst (acc ++ [y]))) else Nx H3)) := ⟨k_lc⟩
instance : Stp (tYes σ H QT) (QT true H) := ⟨k_yes⟩
instance {r : V → Option Int → Option Int → Hp → VK → Prop} {tl th : TO} : Stp (tSl r te tl th σ H Q) (te σ H fun x H1 => tl σ H1 fun l H2 => th σ H2 fun u H3 => r x l u H3 Q) := ⟨k_sl⟩
instance {QO : Option Int → Hp → Prop} : Stp (tNoPart σ H QO) (QO none H) := ⟨k_nopart⟩
instance {QO : Option Int → Hp → Prop} : Stp (tPart te σ H QO) (te σ H fun x H1 => ∃ i, x = .int i ∧ QO (some i) H1) := ⟨k_part⟩
instance {tg : L2.St → Hp → (Int → Int → Hp → Prop) → Prop} : Stp (tLstRg tg σ H Q) (tg σ H fun a b H1 => newR a b H1 Q) := ⟨k_listRg⟩
instance {QR : Int → Int → Hp → Prop} : Stp (tRg1 ta σ H QR) (ta σ H fun x H1 => ∃ n, x = .int n ∧ QR 0 n H1) := ⟨k_rg1⟩
instance {QR : Int → Int → Hp → Prop} : Stp (tRg2 ta tb σ H QR) (ta σ H fun x H1 => tb σ H1 fun y H2 => ∃ i j, x = .int i ∧ y = .int j ∧ QR i j H2) := ⟨k_rg2⟩
instance : Stp (rIsi K [.int a, .ty "int"] H Q) (Q (.bl true) H) := ⟨k_isiI⟩
instance : Stp (rIsi K [.int a, .ty "bool"] H Q) (Q (.bl false) H) := ⟨k_isiB⟩
instance : Stp (rIsi K [.int a, .ty "list"] H Q) (Q (.bl false) H) := ⟨k_isiLI⟩
instance {b : Bool} : Stp (rIntOf [.bl b] H Q) (Q (.int (if b then 1 else 0)) H) := ⟨k_intB⟩
theorem k_chain {r r' : R2} (h : ta σ H fun x H1 => tb σ H1 fun y H2 => r x y H2 fun z H3 => ∃ k, z = .bl k ∧ if k = true then tc σ H3 fun z H4 => r' y z H4 Q else Q (.bl false) H3) : tChain r r' ta tb tc σ H Q := h
instance {r r' : R2} : Stp (tChain r r' ta tb tc σ H Q) (ta σ H fun x H1 => tb σ H1 fun y H2 => r x y H2 fun z H3 => ∃ k, z = .bl k ∧ if k = true then tc σ H3 fun z H4 => r' y z H4 Q else Q (.bl false) H3) := ⟨k_chain⟩
theorem k_ifE (h : t σ H fun c H1 => if c = true then ta σ H1 Q else tb σ H1 Q) : tIf t ta tb σ H Q := h
instance : Stp (tIf t ta tb σ H Q) (t σ H fun c H1 => if c = true then ta σ H1 Q else tb σ H1 Q) := ⟨k_ifE⟩
def par2 (i j : Nat) (vs : List V) (σ : L2.St) (H : Hp) (nx : L2.St → Hp → Prop) : Prop := ∃ v w, vs = [v, w] ∧ nx ((σ.set i (some v)).set j (some w)) H
instance : Stp (tPar i j tr ⟨nx, rt, bk, ct⟩ σ H) (tr σ H fun vs H1 => par2 i j vs σ H1 nx) := ⟨fun h => h⟩
instance {σ'' : L2.St} [e : Put σ i (some v) σ'] [e2 : Put σ' j (some w) σ''] : Stp (par2 i j [v, w] σ H nx) (nx σ'' H) := ⟨fun h => ⟨v, w, rfl, by rw [e.eq, e2.eq]; exact h⟩⟩
end
/-! ### bits -/
def xShl : R2 := rI CPow fun i j => .int (i * 2 ^ j.toNat)
def xAnd : R2 := rI0 fun i j => .int (Builtin.bitAnd i j)
theorem k_shl {H : Hp} {Q : VK} {i j : Int} (hc : CPow i j) (h : Q (.int (i * 2 ^ j.toNat)) H) : xShl (.int i) (.int j) H Q := ⟨i, j, rfl, rfl, hc, h⟩
instance {H : Hp} {Q : VK} {i j : Int} : Stp (xAnd (.int i) (.int j) H Q) (Q (.int (Builtin.bitAnd i j)) H) := ⟨fun h => ⟨i, j, rfl, rfl, h⟩⟩
/-! ### list.count of flat values -/
def cntV (y : V) (ys : List V) : Nat := ys.countP fun z => eqV z y
def rCntV (K : PySem.W.Frag) : V → List V → Hp → VK → Prop := fun x xs H Q => ∃ (a : Addr) (ys : List V) (y : V), x = V.ref a ∧ xs = [y] ∧ SqL K H a ys ∧ flatV y = true ∧ ys.all flatV = true ∧ Q (.int (cntV y ys : Nat)) H
theorem cntV_eq {y : V} : ∀ {ys : List V} {its : List Value}, Vals ys its → ys.all flatV = true → its.countP (eqU y) = cntV y ys
  | _, _, .nil, _ => rfl
  | a :: as, _ :: _, .cons r rs, f => by
    have f1 : flatV a = true ∧ as.all flatV = true := by simpa using f
    unfold cntV
    rw [List.countP_cons, List.countP_cons, eqU_of r f1.1, cntV_eq rs f1.2]
    rfl
theorem mt_lcountV {X : Cx} : MtR X "list.count" (rCntV X.K) := by
  intro pins s σ H x xs v us Q I rx rxs h
  obtain ⟨a, ys, y, rfl, rfl, hs, fy, fys, q⟩ := h
  cases rx
  cases rxs with
  | cons ry rt =>
    rename_i uy ut
    cases rt
    obtain ⟨its, rv, ⟨⟨cls, dd, data, sl⟩, n, ho, hc, hdn, hd⟩, hlen⟩ := I.list hs
    simp only at hc hd
    subst hc hd
    refine call_meets PySem.F.slot_list_count ⟨_, ho, rfl⟩ PySem.F.entry_list_count (PySem.F.args_list_count_2 _ _)
      (SeqAt.list_countAt a its.toArray n dd sl uy (eqU y)) ⟨ho, fun u' hu' => mem_eqAt ry fy rv fys u' (by simpa using hu'), ?_⟩
    have ec : its.toArray.toList.countP (eqU y) = cntV y ys := cntV_eq rv fys
    refine ⟨.int (cntV y ys : Nat), H, I.tok _, ⟨s.toks, ?_⟩, q⟩
    show Value.int ((its.toArray.toList.countP (eqU y) : Nat) : Int) s.toks = Value.int ((cntV y ys : Nat) : Int) s.toks
    rw [ec]
section
variable {K : PySem.W.Frag} {H : Hp} {Q : VK}
theorem k_catN {p q : Addr} {xs ys : List V} (hp : H p = some (.lst xs)) (hq : H q = some (.lst ys)) (hz : xs.length + ys.length ≤ 100000) (h : ∀ l H', H l = none → Same H H' → H' l = some (.lst (xs ++ ys)) → Q (.ref l) H') : rCat (.ref p) (.ref q) H Q := k_cat hp hq hz fun l nl => h l _ nl (same_new nl) upd_same
theorem k_cntV {p : Addr} {ys : List V} {y : V} (hs : SqL K H p ys) (fy : flatV y = true) (fys : ys.all flatV = true) (h : Q (.int (cntV y ys : Nat)) H) : rCntV K (.ref p) [y] H Q := ⟨p, ys, y, rfl, rfl, hs, fy, fys, h⟩
theorem k_indexV {p : Addr} {ys : List V} {y z : V} {j : Nat} (hs : SqL K H p ys) (fy : flatV y = true) (fys : ys.all flatV = true) (hj : ys[j]? = some z) (hz : eqV z y = true) (hn : ∀ (m : Nat) (z' : V), m < j → ys[m]? = some z' → eqV z' y = false) (h : Q (.int (j : Nat)) H) : rIndex K (.ref p) [y] H Q := ⟨p, ys, y, j, z, rfl, rfl, hs, fy, fys, hj, hz, hn, h⟩
theorem k_sortedN {a : Addr} {ns : List Int} (hs : SqL K H a (ns.map V.int)) (h : ∀ (ns' : List Int) (p : Addr) H', ns'.Perm ns → ns'.Pairwise (· ≤ ·) → H p = none → Same H H' → H' p = some (.lst (ns'.map V.int)) → Q (.ref p) H') : rSortedI K [.ref a] H Q := k_sortedI hs fun ns' p h1 h2 h3 => h ns' p _ h1 h2 h3 (same_new h3) upd_same
end
/-! ### facts of older heaps -/
theorem hid_back {S : List Addr} {X Y : Hp} (h : Same X (hid S Y)) : Same X Y := h.trans (hid_same S Y)
theorem at_same {X Y : Hp} {p : Addr} {o : HO} (h : X p = some o) (s : Same X Y) : Y p = some o := s _ _ h
theorem sl_at {K : PySem.W.Frag} {X Y : Hp} {p : Addr} {xs : List V} (h : X p = some (.lst xs)) (s : Same X Y) : SqL K Y p xs := sl (s _ _ h)
theorem st_at {K : PySem.W.Frag} {X Y : Hp} {p : Addr} {xs : List V} (h : X p = some (.tup xs)) (s : Same X Y) : SqT K Y p xs := stp (s _ _ h)
theorem dpI_at {K : PySem.W.Frag} {X Y : Hp} {p : Addr} {ns : List Int} (h : X p = some (.lst (ns.map V.int))) (s : Same X Y) : Dp K Y (.ref p) (dInts ns) := dp_of_ints (sl (s _ _ h))
theorem dpP_at {K : PySem.W.Frag} {X Y : Hp} {p : Addr} {a b : Int} (h : X p = some (.tup [.int a, .int b])) (s : Same X Y) : Dp K Y (.ref p) (dPair (a, b)) := dp_of_pair (stp (s _ _ h))
theorem hid_free {S : List Addr} {H : Hp} (f : ∀ a ∈ S, H a = none) : Same H (hid S H) := fun b o hb => by
  rw [hid_ne fun z => by rw [f b z] at hb; cases hb]; exact hb
theorem hid_free1 {p : Addr} {H : Hp} (f : H p = none) : Same H (hid [p] H) := hid_free (free1 f)
theorem cut_to (xs : List V) (k : Nat) : cutV xs none (some (k : Int)) = xs.take k := by
  unfold cutV
  rw [HT.sIx_none, HT.sIx_nat, List.drop_zero, Nat.sub_zero]
  by_cases h : k ≤ xs.length
  · rw [Nat.min_eq_left h]
  · rw [Nat.min_eq_right (by omega), List.take_of_length_le (by simp), List.take_of_length_le (by omega)]
theorem cut_from (xs : List V) (k : Nat) : cutV xs (some (k : Int)) none = xs.drop k := by
  unfold cutV
  rw [HT.sIx_none, HT.sIx_nat]
  by_cases h : k ≤ xs.length
  · rw [Nat.min_eq_left h]
    exact List.take_of_length_le (by simp)
  · rw [Nat.min_eq_right (by omega), List.drop_of_length_le (Nat.le_refl _), List.drop_of_length_le (by omega), List.take_nil]
theorem dpa_take {K : PySem.W.Frag} {H : Hp} : ∀ {vs : List V} {ds : List PyData} (n : Nat), DpAll K H vs ds → DpAll K H (vs.take n) (ds.take n)
  | _, _, 0, _ => by simp only [List.take_zero]; exact .nil
  | _, _, n + 1, .nil => by simp only [List.take_nil]; exact .nil
  | _, _, n + 1, .cons h r => .cons h (dpa_take n r)
theorem dpa_drop {K : PySem.W.Frag} {H : Hp} : ∀ {vs : List V} {ds : List PyData} (n : Nat), DpAll K H vs ds → DpAll K H (vs.drop n) (ds.drop n)
  | _, _, 0, h => h
  | _, _, n + 1, .nil => by simp only [List.drop_nil]; exact .nil
  | _, _, n + 1, .cons _ r => dpa_drop n r
theorem Le.at {H H' : Hp} {pu p : Addr} {k : Int} {o : HO} (L : Le H pu k) (np : H p = none) (e : H' p = some o) : hid [pu] H' p = some o := by rw [hid_ne (L.fresh np)]; exact e
theorem hat {H : Hp} {pu p : Addr} {o : HO} (np : p ∉ [pu]) (e : H p = some o) : hid [pu] H p = some o := by rw [hid_ne np]; exact e
theorem kLp {xs : List V} {H : Hp} {Q : VK} {pu : Addr} {k : Int} (L : Le H pu k) (hn : xs.length ≤ 100000) (h : ∀ p H', H p = none → Same H H' → hid [pu] H' p = some (.lst xs) → Q (.ref p) H') : newL xs H Q := ⟨sz hn, fun p np => h p _ np (same_new np) (L.at np upd_same)⟩
theorem kTp {xs : List V} {H : Hp} {Q : VK} {pu : Addr} {k : Int} (L : Le H pu k) (hn : xs.length ≤ 100000) (h : ∀ p H', H p = none → Same H H' → hid [pu] H' p = some (.tup xs) → Q (.ref p) H') : newT xs H Q := ⟨sz hn, fun p np => h p _ np (same_new np) (L.at np upd_same)⟩
theorem sh_l2 {n : Nat} {c d : PyData} (h1 : Sh n c) (h2 : Sh n d) : Sh (n + 1) (.list [c, d]) := sh_list fun x hx => by
  rcases List.mem_cons.mp hx with rfl | hx
  · exact h1
  · rcases List.mem_cons.mp hx with rfl | hx
    · exact h2
    · cases hx
section
variable {K : PySem.W.Frag} {σ : L2.St} {H1 : Hp} {Q : VK} {g : TG} {tt : TT} {te : TE} {vs : List Nat}
/-- over a range, new objects may be made -/
theorem lc_growR {QD : Addr → Hp → Prop} {lo : Int} {n : Nat} (hz : n ≤ 50000) (f : Nat → Option V)
    (step : ∀ (i : Nat) H', i < n → Same H1 H' → ∀ (R : V → Hp → Prop) (R0 : Hp → Prop), (∀ y H'', f i = some y → Same H' H'' → R y H'') → (∀ H'', f i = none → Same H' H'' → R0 H'') →
      g (.int (lo + (i : Nat))) (wipe σ vs) H' fun σ2 H2 => wipe σ2 vs = wipe σ vs ∧ tt σ2 H2 fun b H3 => if b = true then te σ2 H3 R else R0 H3)
    (h : ∀ D H', H1 D = none → Same H1 H' → H' D = some (.lst ((List.range n).filterMap f)) → QD D H') :
    ∀ D, H1 D = none → ∃ W : Nat → Nat → Hp → Prop, (∃ m, W 0 m (upd H1 D (.lst []))) ∧ ∀ i m H, W i m H →
      ((Itr lo n).stop i H ∧ QD D H) ∨ ((Itr lo n).go i H ∧ ∃ Nx : Hp → Prop, (∀ H', Nx H' → ∃ m', m' < m ∧ W (i + 1) m' H') ∧ ∀ x H', (Itr lo n).yld i H x H' → g x (wipe σ vs) H' fun σ2 H2 => wipe σ2 vs = wipe σ vs ∧ tt σ2 H2 fun b H3 =>
        if b = true then te σ2 H3 fun y H4 => ∃ acc, H4 D = some (.lst acc) ∧ acc.length < sizeLine ∧ Nx (upd H4 D (.lst (acc ++ [y]))) else Nx H3) := by
  refine fun D nD => lc_range (fun i H => Same H1 H ∧ H D = some (.lst (((List.range n).take i).filterMap f))) ⟨same_new nD, by rw [upd_same]; simp⟩ ?_ ?_
  · rintro i H hi ⟨sm, hD⟩
    have tk := take_filterMap (f := f) (range_take hi)
    refine step i H hi sm _ _ (fun y H'' hy s2 => ⟨_, s2 _ _ hD, szl ?_, same_mut (sm.trans s2) nD, ?_⟩) (fun H'' hn s2 => ⟨sm.trans s2, ?_⟩)
    · have := List.length_filterMap_le f ((List.range n).take i)
      rw [List.length_take, List.length_range] at this
      omega
    · rw [upd_same, tk, hy]; rfl
    · rw [tk, hn, s2 _ _ hD]; simp
  · rintro H ⟨sm, hD⟩
    rw [List.take_of_length_le (by simp)] at hD
    exact h D H nD sm hD
end
/-- behind an if: what follows is shown once -/
theorem ifjoin {c : Bool} {σ : L2.St} {H : Hp} {s1 s2 : TS} {nx bk ct : L2.St → Hp → Prop} {rt : VK} (G : L2.St → Hp → Prop) (main : ∀ σ H, G σ H → nx σ H) (h : (∀ σ H, G σ H → nx σ H) → if c = true then s1 ⟨nx, rt, bk, ct⟩ σ H else s2 ⟨nx, rt, bk, ct⟩ σ H) : if c = true then s1 ⟨nx, rt, bk, ct⟩ σ H else s2 ⟨nx, rt, bk, ct⟩ σ H := h main
theorem k_repN {H : Hp} {Q : VK} {p : Addr} {xs : List V} {k : Int} (hp : H p = some (.lst xs)) (h0 : 0 ≤ k) (h1 : k < 100000) (h2 : xs.length * k.toNat ≤ 100000) (h : ∀ l H', H l = none → Same H H' → H' l = some (.lst (List.replicate k.toNat xs).flatten) → Q (.ref l) H') : rRep (.ref p) (.int k) H Q := k_rep hp h0 h1 h2 fun l nl => h l _ nl (same_new nl) upd_same
theorem ixN_last {n : Nat} (h : 0 < n) : ixN n (-1) = some (n - 1) := by
  unfold ixN
  rw [if_neg (by omega)]
  split
  · simp; omega
  · omega
theorem ifsjoin {t : TT} {σ : L2.St} {H : Hp} {s1 s2 : TS} {nx bk ct : L2.St → Hp → Prop} {rt : VK} (G : L2.St → Hp → Prop) (main : ∀ σ H, G σ H → nx σ H) (h : (∀ σ H, G σ H → nx σ H) → tIfS t s1 s2 ⟨nx, rt, bk, ct⟩ σ H) : tIfS t s1 s2 ⟨nx, rt, bk, ct⟩ σ H := h main
/-- over a list or a tuple -/
def iAny (w1 w2 : TI) : TI := fun σ H R => w1 σ H R ∨ w2 σ H R
theorem pi_any {X : Cx} {tg it : Expr} {w1 w2 : TI} (h1 : PI X tg it w1) (h2 : PI X tg it w2) : PI X tg it (iAny w1 w2) := ⟨fun pins s σ H R I h => by
  rcases h with h | h
  · exact h1.run pins s σ H R I h
  · exact h2.run pins s σ H R I h⟩
theorem k_inT2 {K : PySem.W.Frag} {H : Hp} {Q : VK} {p : Addr} {x a b : Int} (hs : SqT K H p [.int a, .int b]) (h : Q (.bl (decide (x = a ∨ x = b))) H) : rIn K false (.int x) (.ref p) H Q :=
  ⟨p, _, rfl, .inr hs, rfl, flat_ints [a, b], by
    rw [if_neg Bool.false_ne_true, show ([V.int a, .int b] : List V) = List.map V.int [a, b] from rfl, inV_ints]
    have e : decide (x ∈ [a, b]) = decide (x = a ∨ x = b) := by simp
    rw [e]; exact h⟩
theorem Pu.at {H H' : Hp} {pu ce p : Addr} {n : Nat} {t : Int} {o : HO} (L : Pu H pu ce n t) (np : H p = none) (e : H' p = some o) : hid [pu, ce] H' p = some o := by rw [hid_ne (L.fresh np)]; exact e
theorem kLq {xs : List V} {H : Hp} {Q : VK} {pu ce : Addr} {n : Nat} {t : Int} (L : Pu H pu ce n t) (hn : xs.length ≤ 100000) (h : ∀ p H', H p = none → Same H H' → hid [pu, ce] H' p = some (.lst xs) → Q (.ref p) H') : newL xs H Q := ⟨sz hn, fun p np => h p _ np (same_new np) (L.at np upd_same)⟩
theorem kTq {xs : List V} {H : Hp} {Q : VK} {pu ce : Addr} {n : Nat} {t : Int} (L : Pu H pu ce n t) (hn : xs.length ≤ 100000) (h : ∀ p H', H p = none → Same H H' → hid [pu, ce] H' p = some (.tup xs) → Q (.ref p) H') : newT xs H Q := ⟨sz hn, fun p np => h p _ np (same_new np) (L.at np upd_same)⟩
end Cm

namespace Cm
open PySem PySem.Spec PyProof.Rows L2

/-! ### how many unlike ints -/
def unl (ns : List Int) : Nat := (PyProof.Rows.firstMet (fun i => ns.getD i 0) ns.length).length
theorem unl_le (ns : List Int) : unl ns ≤ ns.length := PyProof.Rows.firstMet_length_le _ _
def tLenU (K : PySem.W.Frag) (ta : TE) : TE := fun σ H Q => ta σ H fun x H1 => ∃ (l : Addr) (ns : List Int), x = .ref l ∧ SqL K H1 l (ns.map V.int) ∧ ns.length ≤ 4000 ∧ Q (.int (unl ns : Nat)) H1
theorem pe_lenU {X : Cx} {a : Expr} {ta : TE} {p p2 q pos : Pos} (cm : X.calm = true) (gl : Gl X "len") (ml : X.mg "len" = none) (gs : Gl X "set") (ms : X.mg "set" = none) (pa : PE X a ta)
    (se : starEach [a] X.env = (false, eval a X.env) :: starEach [] X.env := by rfl) : PE X (.Call (.Name "len" p) [.Call (.Name "set" p2) [a] [] q] [] pos) (tLenU X.K ta) := by
  constructor
  intro pins s σ H Q I h
  refine Call_ (ld_blt I gl ml boot_len (PyProof.Rows.callWith_builtin1 (PyProof.Rows.args_cons ?_ rfl) rfl rfl))
  refine Call_ (ld_blt I gs ms boot_set (PyProof.Rows.callWith_type1 (PyProof.Rows.args_cons (thn (pa.run pins s σ H _ I h) fun v s1 ⟨x, H1, J, rx, qx⟩ => PyProof.Rows.args_nil ?_) se) se rfl))
  obtain ⟨l, ns, rfl, hq, hl, qx⟩ := qx
  cases rx
  obtain ⟨its, rv, pl, hz⟩ := J.list hq
  have sz1 : its.toArray.size = ns.length := by rw [List.size_toArray, ← rv.length, List.length_map]
  refine call_set_list (J.ok.hd cm) pl.isList (by simpa using RZ.intsAre_vals rv) (by rw [sz1]; unfold scanBound; omega) fun h' tk hS hk => PyProof.Rows.args_nil ?_
  rw [sz1] at hS
  obtain ⟨o, es, ep, t, ho, hex, hd, _, _, _, hf, hn⟩ := hS
  have J2 : Inv X pins σ H1 { s1 with heap := h', toks := tk } := J.kept fun b o e => hk b o (Heap.lt_size e) e
  have hu := unl_le ns
  exact call_len_set ho hex hd hf (by rw [hn]; unfold unl at hu; omega) ⟨.int (unl ns : Nat), H1, J2.tok _, ⟨_, by rw [hn]; rfl⟩, qx⟩

section
variable {K : PySem.W.Frag} {σ : L2.St} {H1 : Hp} {g : TG} {tt : TT} {te : TE} {vs : List Nat}
/-- over a tuple, new objects may be made -/
theorem lc_growT {QD : Addr → Hp → Prop} {α : Type} {a : Addr} {xs : List V} (hs : SqT K H1 a xs) (ps : List α) (hl : xs.length = ps.length) (hz : ps.length ≤ 50000) (f : α → Option V)
    (step : ∀ (i : Nat) x p H', xs[i]? = some x → ps[i]? = some p → Same H1 H' → ∀ (R : V → Hp → Prop) (R0 : Hp → Prop), (∀ y H'', f p = some y → Same H' H'' → R y H'') → (∀ H'', f p = none → Same H' H'' → R0 H'') →
      g x (wipe σ vs) H' fun σ2 H2 => wipe σ2 vs = wipe σ vs ∧ tt σ2 H2 fun b H3 => if b = true then te σ2 H3 R else R0 H3)
    (h : ∀ D H', H1 D = none → Same H1 H' → H' D = some (.lst (ps.filterMap f)) → QD D H') :
    ∃ a', V.ref a = .ref a' ∧ (∃ xs, SqT K H1 a' xs) ∧ ∀ D, H1 D = none → ∃ W : Nat → Nat → Hp → Prop, (∃ m, W 0 m (upd H1 D (.lst []))) ∧ ∀ i m H, W i m H →
      ((Itt K a').stop i H ∧ QD D H) ∨ ((Itt K a').go i H ∧ ∃ Nx : Hp → Prop, (∀ H', Nx H' → ∃ m', m' < m ∧ W (i + 1) m' H') ∧ ∀ x H', (Itt K a').yld i H x H' → g x (wipe σ vs) H' fun σ2 H2 => wipe σ2 vs = wipe σ vs ∧ tt σ2 H2 fun b H3 =>
        if b = true then te σ2 H3 fun y H4 => ∃ acc, H4 D = some (.lst acc) ∧ acc.length < sizeLine ∧ Nx (upd H4 D (.lst (acc ++ [y]))) else Nx H3) := by
  refine ⟨a, rfl, ⟨xs, hs⟩, fun D nD => lc_tup (xs := xs) (fun i H => Same H1 H ∧ H D = some (.lst ((ps.take i).filterMap f))) ⟨same_new nD, by rw [upd_same]; simp⟩ (fun i H _ e => same_seqT e.1 hs) ?_ ?_⟩
  · rintro i x H hx ⟨sm, hD⟩
    have hi : i < xs.length := (List.getElem?_eq_some_iff.mp hx).1
    obtain ⟨p, hp⟩ : ∃ p, ps[i]? = some p := ⟨ps[i]'(by omega), List.getElem?_eq_getElem (by omega)⟩
    have tk := take_filterMap (f := f) hp
    refine step i x p H hx hp sm _ _ (fun y H'' hy s2 => ⟨_, s2 _ _ hD, szl ?_, same_mut (sm.trans s2) nD, ?_⟩) (fun H'' hn s2 => ⟨sm.trans s2, ?_⟩)
    · have := List.length_filterMap_le f (ps.take i)
      rw [List.length_take] at this
      omega
    · rw [upd_same, tk, hy]; rfl
    · rw [tk, hn, s2 _ _ hD]; simp
  · rintro H ⟨sm, hD⟩
    rw [hl, List.take_length] at hD
    exact h D H nD sm hD
end
theorem k_ixN {K : PySem.W.Frag} {H : Hp} {Q : VK} {p : Addr} {ns : List Int} {i : Nat} {x : Int} (hs : SqL K H p (ns.map V.int)) (hx : ns[i]? = some x) (h : Q (.int x) H) : rIxL K (.ref p) (.int i) H Q := k_ixL hs (atI_nat (by rw [List.getElem?_map, hx]; rfl)) h
theorem fm_map {α : Type} (f : α → V) (l : List α) : l.filterMap (fun x => some (f x)) = l.map f := by
  rw [show (fun x => some (f x)) = some ∘ f from rfl, List.filterMap_eq_map]

/-- what follows a statement is shown once, and lies out of sight meanwhile -/
theorem seqO {s1 s2 : TS} {σ : L2.St} {H : Hp} {nx bk ct : L2.St → Hp → Prop} {rt : VK} (G : L2.St → Hp → Prop) (main : ∀ σ H, G σ H → s2 ⟨nx, rt, bk, ct⟩ σ H) (h : ∀ nx' : L2.St → Hp → Prop, (∀ σ H, G σ H → nx' σ H) → s1 ⟨nx', rt, bk, ct⟩ σ H) : tSeq s1 s2 ⟨nx, rt, bk, ct⟩ σ H := h _ main
/-- the last statement of a block -/
theorem lastO {s1 : TS} {σ : L2.St} {H : Hp} {nx bk ct : L2.St → Hp → Prop} {rt : VK} (G : L2.St → Hp → Prop) (main : ∀ σ H, G σ H → nx σ H) (h : ∀ nx' : L2.St → Hp → Prop, (∀ σ H, G σ H → nx' σ H) → s1 ⟨nx', rt, bk, ct⟩ σ H) : s1 ⟨nx, rt, bk, ct⟩ σ H := h _ main

/-! ### texts -/
def rStrInt : List V → Hp → VK → Prop := fun xs H Q => ∃ i : Int, xs = [.int i] ∧ i.natAbs.log2 < 1920 ∧ Q (.str (toString i)) H
theorem q_strI {X : Cx} : CallR X (.type "str") rStrInt := call_str_int
def xAddS : R2 := fun x y H Q => ∃ i j, x = .str i ∧ y = .str j ∧ i.length + j.length ≤ sizeLine ∧ Q (.str (i ++ j)) H
def rJoin (K : PySem.W.Frag) : V → List V → Hp → VK → Prop := fun x xs H Q => ∃ a p, ∃ ys : List Str, x = .str a ∧ xs = [.ref p] ∧ (SqL K H p (ys.map V.str) ∨ SqT K H p (ys.map V.str)) ∧ (ys.map (·.length)).sum + ys.length * a.length ≤ 16777216 ∧ Q (.str (Txt.join a ys)) H
/-- the signs of a text -/
abbrev sg (s : Str) : List Nat := TL.tl s
def mkS (l : List Nat) : Str := ⟨l.toArray⟩
theorem sg_mkS (l : List Nat) : sg (mkS l) = l := rfl
theorem mkS_sg (s : Str) : mkS (sg s) = s := TL.ext_tl rfl
theorem mkS_inj {l m : List Nat} : mkS l = mkS m ↔ l = m := ⟨fun h => by have := congrArg sg h; rwa [sg_mkS, sg_mkS] at this, fun h => by rw [h]⟩
/-- the signs of a whole number -/
def nu (i : Int) : List Nat := sg (Str.ofString (toString i))
section
variable {K : PySem.W.Frag} {σ : L2.St} {H : Hp} {Q : VK} {to te : TE}
instance {r : V → List V → Hp → VK → Prop} : Stp (tM1 r to te σ H Q) (to σ H fun x H1 => (∃ a, x = .str a) ∧ te σ H1 fun y H2 => r x [y] H2 Q) := ⟨fun h => h⟩
instance {r : V → List V → Hp → VK → Prop} : Stp (tM0 r to σ H Q) (to σ H fun x H1 => (∃ a, x = .str a) ∧ r x [] H1 Q) := ⟨fun h => h⟩
instance {s : Str} {R : Prop} : Stp ((∃ a, V.str s = .str a) ∧ R) R := ⟨fun h => ⟨⟨s, rfl⟩, h⟩⟩
instance : Stp (tLenU K te σ H Q) (te σ H fun x H1 => ∃ (l : Addr) (ns : List Int), x = .ref l ∧ SqL K H1 l (ns.map V.int) ∧ ns.length ≤ 4000 ∧ Q (.int (unl ns : Nat)) H1) := ⟨fun h => h⟩
theorem k_lenU {l : Addr} {ns : List Int} (hs : SqL K H l (ns.map V.int)) (hl : ns.length ≤ 4000) (h : Q (.int (unl ns : Nat)) H) : ∃ (l' : Addr) (ns : List Int), V.ref l = .ref l' ∧ SqL K H l' (ns.map V.int) ∧ ns.length ≤ 4000 ∧ Q (.int (unl ns : Nat)) H := ⟨l, ns, rfl, hs, hl, h⟩
/-- a number of at most thirty figures -/
def Num30 (i : Int) : Prop := 0 ≤ i ∧ i < 10 ^ 30
theorem log_lt {n : Nat} (h : n < 2 ^ 1900) : n.log2 < 1920 := by
  by_cases c : n = 0
  · subst c; decide
  · have := (Nat.log2_lt c (k := 1900)).mpr h
    omega
theorem k_strI {i : Int} (h0 : i.natAbs < 2 ^ 1900) (h : Q (.str (mkS (nu i))) H) : rStrInt [.int i] H Q := ⟨i, rfl, log_lt h0, by unfold nu at h; rw [mkS_sg] at h; exact h⟩
theorem len_sg (s : Str) : s.length = (sg s).length := TL.len_tl s
theorem k_addS {s t : Str} (hz : (sg s).length + (sg t).length ≤ 100000) (h : Q (.str (mkS (sg s ++ sg t))) H) : xAddS (.str s) (.str t) H Q := ⟨s, t, rfl, rfl, by rw [len_sg, len_sg]; exact sz hz, by
  have e : s ++ t = mkS (sg s ++ sg t) := TL.ext_tl (TL.tl_append s t)
  rw [e]; exact h⟩
theorem k_join {s : Str} {p : Addr} {ys : List Str} (hp : SqL K H p (ys.map V.str)) (hz : (ys.map (·.length)).sum + ys.length * s.length ≤ 16777216) (h : Q (.str (mkS (TL.joinL (sg s) (ys.map sg)))) H) : rJoin K (.str s) [.ref p] H Q :=
  ⟨s, p, ys, rfl, rfl, .inl hp, hz, by
    have e : Txt.join s ys = mkS (TL.joinL (sg s) (ys.map sg)) := TL.ext_tl (by rw [TL.join_eq]; exact TL.tl_join s ys)
    rw [e]; exact h⟩
theorem k_isiS {s : Str} (h : Q (.bl true) H) : rIsi K [.str s, .ty "str"] H Q := k_isi (.base (.str s)) (by decide +kernel) h
end
/-! ### more of texts -/
def g_tokS (mg : Str → Option Value) (x : Str) : Tok := match mg x with
  | some (.str _ t) => t
  | _ => default
theorem tok_mkS {mg : Str → Option Value} {x n : Str} {t : Tok} (h : mg x = some (.str n t)) : mg x = some (.str n (g_tokS mg x)) := by
  unfold g_tokS
  rw [h]
theorem q_isiT {X : Cx} : CallR X (.builtin "isinstance") (rIsiT X.K) := call_isiT
def rLenStr : List V → Hp → VK → Prop := fun xs H Q => ∃ z : Str, xs = [.str z] ∧ z.length ≤ sizeLine ∧ Q (.int z.length) H
theorem q_lenS {X : Cx} : CallR X (.builtin "len") rLenStr := call_len_str
def xInS : R2 := fun x y H Q => ∃ i j, x = .str i ∧ y = .str j ∧ Q (.bl (!(Builtin.Str.occurrences j i 0 j.length 1).isEmpty)) H
def xNotInS : R2 := fun x y H Q => ∃ i j, x = .str i ∧ y = .str j ∧ Q (.bl (!(!(Builtin.Str.occurrences j i 0 j.length 1).isEmpty))) H
def rFind : V → List V → Hp → VK → Prop := fun x xs H Q => ∃ a b, x = .str a ∧ xs = [.str b] ∧ Q (.int (Txt.find a b)) H
def rSplit : V → List V → Hp → VK → Prop := fun x xs H Q => ∃ a b, x = .str a ∧ xs = [.str b] ∧ (b.length == 0) = false ∧ a.length + 2 ≤ sizeLine ∧ rNewStrs (Txt.split a b) H Q
section
variable {K : PySem.W.Frag} {σ : L2.St} {H : Hp} {Q : VK} {te : TE}
instance {R : It → Hp → Prop} : Stp (iStr te σ H R) (te σ H fun v H1 => ∃ x, v = .str x ∧ R (Its x) H1) := ⟨fun h => h⟩
theorem k_lenS {l : List Nat} (hl : l.length ≤ 100000) (h : Q (.int (l.length : Nat)) H) : rLenStr [.str (mkS l)] H Q := ⟨_, rfl, by rw [len_sg, sg_mkS]; exact sz hl, by rw [len_sg, sg_mkS]; exact h⟩
theorem k_notInS {l : List Nat} {c : Nat} (h : Q (.bl (!decide (c ∈ l))) H) : xNotInS (.str ⟨#[c]⟩) (.str (mkS l)) H Q := ⟨_, _, rfl, rfl, by
  rw [StrLaws.found_one]; exact h⟩
theorem k_inS {l : List Nat} {c : Nat} (h : Q (.bl (decide (c ∈ l))) H) : xInS (.str ⟨#[c]⟩) (.str (mkS l)) H Q := ⟨_, _, rfl, rfl, by
  rw [StrLaws.found_one]; exact h⟩
theorem k_split {l : List Nat} {s : Str} {ps : List (List Nat)} (hl : l.length ≤ 99000) (hs : s.length ≠ 0) (hp : Txt.split (mkS l) s = ps.map mkS) (h : ∀ p H', H p = none → Same H H' → H' p = some (.lst (ps.map fun q => V.str (mkS q))) → Q (.ref p) H') : rSplit (.str (mkS l)) [.str s] H Q :=
  ⟨_, _, rfl, rfl, by simpa using hs, by rw [len_sg, sg_mkS]; exact sz (by omega), fun p np => h p _ np (same_new np) (by rw [upd_same, hp, List.map_map]; rfl)⟩
theorem k_ixS {l : List Nat} {i : Nat} {c : Nat} (hl : l.length ≤ 100000) (hc : l[i]? = some c) (h : Q (.str ⟨#[c]⟩) H) : rIxS (.str (mkS l)) (.int i) H Q := ⟨_, _, c, rfl, rfl, by rw [len_sg, sg_mkS]; exact sz hl, atI_nat hc, h⟩
end
theorem split_one {s : Nat} {ps : List (List Nat)} (hs : s < 256) (hne : ps ≠ []) (hp : ∀ p ∈ ps, s ∉ p) : Txt.split (mkS (TL.joinL [s] ps)) ⟨#[s]⟩ = ps.map mkS := by
  have e : mkS (TL.joinL [s] ps) = Txt.join ⟨#[s]⟩ (ps.map mkS) := TL.ext_tl (by
    rw [TL.join_eq, TL.tl_join, List.map_map]
    show TL.joinL [s] ps = TL.joinL [s] (ps.map (TL.tl ∘ mkS))
    rw [show (TL.tl ∘ mkS) = id from rfl, List.map_id])
  rw [e]
  refine TL.split_join (s := s) (S := []) rfl (by simp [hs]) (by simpa using hne) fun p h => ?_
  obtain ⟨q, hq, rfl⟩ := List.mem_map.mp h
  exact hp q hq
/-- rows, each with its end, and what stands behind the last end -/
theorem rows_join (rs : List (List Nat)) (e : Nat) (z : List Nat) : (rs.map fun r => r ++ [e]).flatten ++ z = TL.joinL [e] (rs ++ [z]) := by
  induction rs with
  | nil => rfl
  | cons r t ih =>
    have : TL.joinL [e] (r :: (t ++ [z])) = r ++ ([e] ++ TL.joinL [e] (t ++ [z])) := by
      cases t <;> rfl
    rw [List.cons_append, this, ← ih]
    simp
theorem sg_str (s : String) : sg (Str.ofString s) = s.toList.map Char.toNat := TL.tl_ofString s
theorem nu_nat (n : Nat) : nu (n : Int) = TL.numL n := TL.tl_num n
theorem nu_len {i : Int} (h : 0 ≤ i) {k : Nat} (k0 : 0 < k) (h1 : i < 10 ^ k) : (nu i).length ≤ k := by
  obtain ⟨n, rfl⟩ := Int.eq_ofNat_of_zero_le h
  rw [nu_nat]
  unfold TL.numL
  rw [List.length_map]
  refine (Nat.length_toDigits_le_iff (by decide) k0).mpr ?_
  have : ((n : Nat) : Int) < ((10 ^ k : Nat) : Int) := by rw [Int.natCast_pow]; exact h1
  exact Int.ofNat_lt.mp this
/-- signs behind one another -/
theorem joinL_nil (ps : List (List Nat)) : TL.joinL [] ps = ps.flatten := by
  induction ps with
  | nil => rfl
  | cons p r ih => cases r with
    | nil => simp [TL.joinL]
    | cons q r => show p ++ ([] ++ TL.joinL [] (q :: r)) = _; rw [ih]; simp
theorem joinL_cons (S p : List Nat) (r : List (List Nat)) : TL.joinL S (p :: r) = p ++ (r.map fun q => S ++ q).flatten := by
  induction r generalizing p with
  | nil => simp [TL.joinL]
  | cons q r ih => show p ++ (S ++ TL.joinL S (q :: r)) = _; rw [ih]; simp
theorem sum_le {l : List Nat} {b : Nat} (h : ∀ x ∈ l, x ≤ b) : l.sum ≤ l.length * b := by
  induction l with
  | nil => simp
  | cons x r ih =>
    have h1 := ih fun y hy => h y (List.mem_cons_of_mem _ hy)
    have h2 := h x List.mem_cons_self
    rw [List.sum_cons, List.length_cons, Nat.add_mul]
    omega
theorem flat_le {l : List (List Nat)} {b : Nat} (h : ∀ x ∈ l, x.length ≤ b) : l.flatten.length ≤ l.length * b := by
  rw [List.length_flatten]
  have := sum_le (l := l.map List.length) (b := b) fun x hx => by
    obtain ⟨y, hy, rfl⟩ := List.mem_map.mp hx
    exact h y hy
  rw [List.length_map] at this
  exact this
end Cm

namespace Cm
open PySem PySem.Spec PyProof.Rows L2

/-! ### max(d.values()) -/
def tMaxVals (td : TE) : TE := fun σ H Q => td σ H fun x H1 => ∃ (a : Addr) (kvs : List (Key × V)) (is : List Int), x = V.ref a ∧ H1 a = some (.dK kvs) ∧ kvs.map (·.2) = is.map V.int ∧ is ≠ [] ∧ ∀ m, m ∈ is → (∀ j ∈ is, j ≤ m) → Q (.int m) H1
theorem pe_maxVals {X : Cx} {o : Expr} {p pos apos mpos : Pos} {td : TE} (hc : X.calm = true) (hg : Gl X "max") (hm : X.mg "max" = none) (hd : PE X o td) (hbase : attributeBase o "values" X.env (eval o X.env) = eval o X.env := by rfl) (hline : (apos.endLine == mpos.line) = true := by rfl)
    (hse : starEach [Expr.Call (.Attribute o "values" apos) [] [] mpos] X.env = [(false, eval (Expr.Call (.Attribute o "values" apos) [] [] mpos) X.env)] := by rfl) :
    PE X (.Call (.Name "max" p) [.Call (.Attribute o "values" apos) [] [] mpos] [] pos) (tMaxVals td) := by
  constructor
  intro pins s σ H Q I h
  refine wpAny_Call_Name_kw (ld_blt I hg hm (u := .builtin "max") (by first | rfl | decide +kernel) ?_ (by first | decide +kernel | decide) (by first | decide +kernel | decide))
  rw [hse]
  refine PySem.callWith_builtin1 (wpAny_Call_method0_late hbase hline (thn (hd.run pins s σ H _ I h) ?_))
  rintro v s1 ⟨x, H1, I1, r1, a, kvs, is, rfl, ha, hv, hne, q⟩
  obtain rfl : v = Value.ref a := r1
  obtain ⟨_, hsys, vs, rel, dof⟩ := dk_of I1.hok ha
  obtain ⟨ep, dat⟩ := dof.dictAt
  obtain ⟨ob, es, ho, ex, hdat, hko, hpr, hnd⟩ := id dat
  have lv : vs.length = is.length := by
    have e1 : kvs.length = is.length := by simpa using congrArg List.length hv
    rw [← e1]; exact (KV.length rel).symm
  have l0 : 0 < is.length := List.length_pos_iff.mpr hne
  have vals : ∀ (i : Nat) (v : Value), (∃ k, vs[i]? = some (k, v)) → ∃ t, v = Value.int (is.getD i 0) t := by
    rintro i v ⟨k, hk⟩
    obtain ⟨x, h1, h2⟩ := KV.at' rel hk
    have e1 : (is.map V.int)[i]? = some x := by rw [← hv, List.getElem?_map, h1] <;> rfl
    rw [List.getElem?_map] at e1
    obtain ⟨j, hj, rfl⟩ := Option.map_eq_some_iff.mp e1
    obtain ⟨t, e3⟩ := h2
    exact ⟨t, by rw [e3, List.getD_eq_getElem?_getD, hj] <;> rfl⟩
  refine ⟨"dict", "dict.values", F.plainAttrs_dict, F.slot_dict_values, F.type_dict_values, ⟨ob, ho, ex.1⟩, fun b e => by cases e; exact ⟨ob, ho, ex.2.1⟩, Calls.callWith_builtin rfl (PySem.evalArgs_none ?_)⟩
  refine call_meetsIn F.slot_dict_values ⟨ob, ho, ex.1⟩ F.entry_dict_values (F.args_dict_values_1 _) (meets_dict_values (mixKind X.prog X.w) a hsys) ⟨⟨vs, dof⟩, ?_⟩
  have up : ∀ b u, s1.heap.get? b = some u → (s1.heap.push { cls := .type "dict_values", data := .fields #[.ref a] }).get? b = some u := fun b u e => Heap.get?_push_of_some _ e
  have dat1 := dat.keep up
  have alt : a < s1.heap.objs.size := Heap.lt_size ho
  have sz : (s1.heap.push { cls := .type "dict_values", data := .fields #[.ref a] }).objs.size = s1.heap.objs.size + 1 := Heap.size_push _ _
  refine call_max_walk (wpAny_pyIter_values (v := s1.heap.objs.size) (d := a) ⟨_, Heap.get?_push_size _ rfl, rfl, rfl⟩ dat1 ?_)
  refine ⟨_, _, _, _, _, _, _, rfl, Walks.dictValues (knd := mixKind X.prog X.w) (A := X.A.in1) (I.ok.hd hc) (s1.heap.push { cls := .type "dict_values", data := .fields #[.ref a] }).objs.size a (by rw [sz]; exact Nat.ne_of_lt (Nat.lt_succ_of_lt alt)) vs ep,
    ⟨⟨_, Heap.get?_push_size _ rfl, rfl, rfl⟩, dat1.keep fun b u e => Heap.get?_push_of_some _ e⟩, ?_, by omega, CmpOf.ints_gt (fun i => is.getD i 0) vals, ?_⟩
  · intro b hb
    show b < ((s1.heap.push _).push _).objs.size
    rw [Heap.size_push, Heap.size_push]
    rw [sz] at hb
    rcases List.mem_cons.mp hb with e | hb
    · rw [e]; exact Nat.lt_succ_self _
    · rw [show b = a from List.mem_singleton.mp hb]
      exact Nat.lt_succ_of_lt (Nat.lt_succ_of_lt alt)
  · intro v h' tk hP hk
    obtain ⟨t, rfl⟩ := vals _ v hP
    obtain ⟨b1, b2⟩ := argBest_gt (fun i => is.getD i 0) (vs.length - 1)
    refine ⟨.int _, H1, I1.kept (t' := tk) fun b u e => hk b u (fun hmem => ?_) (Heap.get?_push_of_some _ (up b u e)), ⟨t, rfl⟩, q _ ?_ ?_⟩
    · have e1 := List.mem_singleton.mp hmem
      have e2 := Heap.lt_size e
      rw [sz] at e1
      rw [e1] at e2
      exact Nat.lt_irrefl _ (Nat.lt_of_lt_of_le e2 (Nat.le_succ _))
    · have hb : argBest (fun i j => decide (is.getD i 0 > is.getD j 0)) (vs.length - 1) < is.length := by omega
      rw [List.getD_eq_getElem?_getD, List.getElem?_eq_getElem hb]
      exact List.getElem_mem hb
    · intro j hj
      obtain ⟨i, hi, rfl⟩ := List.mem_iff_getElem.mp hj
      have e2 : is.getD i 0 = is[i] := by rw [List.getD_eq_getElem?_getD, List.getElem?_eq_getElem hi] <;> rfl
      rw [← e2]
      exact b2 i (by omega)

/-! ### fields and methods of an instance -/
section
variable {K : PySem.W.Frag} {σ : L2.St} {H : Hp} {Q : VK} {ta tv : TE} {t : TA} {f m : Str} {a C dx : Addr} {fs : List (Str × V)}
/-- x.f is read -/
def gF (K : PySem.W.Frag) (f : Str) (x : V) (H : Hp) (Q : VK) : Prop := ∃ a C dx fs v, x = .ref a ∧ H a = some (.ins C dx fs) ∧ Cls K C ∧ NoAttr K C f ∧ fs.lookup f = some v ∧ Q v H
instance : Stp (tFld K ta f σ H Q) (ta σ H fun x H1 => gF K f x H1 Q) := ⟨id⟩
theorem k_gF {v : V} (e : H a = some (.ins C dx fs)) (c : Cls K C) (n : NoAttr K C f) (l : fs.lookup f = some v) (h : Q v H) : gF K f (.ref a) H Q := ⟨a, C, dx, fs, v, rfl, e, c, n, l, h⟩
/-- x.f = y is written -/
def pF (K : PySem.W.Frag) (f : Str) (x y : V) (H : Hp) (N : Hp → Prop) : Prop := ∃ a C dx fs, x = .ref a ∧ H a = some (.ins C dx fs) ∧ Cls K C ∧ NoAttr K C f ∧ fs.length < 1000 ∧ N (upd H a (.ins C dx (putF f y fs)))
instance {nx bk ct : L2.St → Hp → Prop} {rt : VK} : Stp (sFld K ta tv f ⟨nx, rt, bk, ct⟩ σ H) (tv σ H fun y H1 => ta σ H1 fun x H2 => pF K f x y H2 (nx σ)) := ⟨id⟩
theorem k_pF {y : V} {N : Hp → Prop} (e : H a = some (.ins C dx fs)) (c : Cls K C) (n : NoAttr K C f) (l : fs.length < 1000) (h : N (upd H a (.ins C dx (putF f y fs)))) : pF K f (.ref a) y H N := ⟨a, C, dx, fs, rfl, e, c, n, l, h⟩
/-- x.m is a method's call -/
def mF (C : Addr) (m : Str) (x : V) (H : Hp) (P : Prop) : Prop := ∃ a dx fs, x = .ref a ∧ H a = some (.ins C dx fs) ∧ fs.lookup m = none ∧ P
instance {sp : Sp} {E : XK} : Stp (tMeth C m sp [] E ta t σ H Q) (ta σ H fun x H1 => mF C m x H1 (t σ H1 fun vs H2 => sp (x :: vs) H2 Q E)) := ⟨fun h => by
  unfold tMeth
  simp only [List.append_nil]
  exact h⟩
theorem k_mF {P : Prop} (e : H a = some (.ins C dx fs)) (l : fs.lookup m = none) (h : P) : mF C m (.ref a) H P := ⟨a, dx, fs, rfl, e, l, h⟩
/-- a new instance -/
def newI (C : Addr) (sp : Sp) (E : XK) (vs : List V) (H : Hp) (Q : VK) : Prop := ∀ x dx, H x = none → H dx = none → dx ≠ x → sp (.ref x :: vs) (upd (upd H dx (.own x)) x (.ins C dx [])) (fun v H2 => v = .non ∧ Q (.ref x) H2) E
instance {sp : Sp} {E : XK} : Stp (tMake C sp [] E t σ H Q) (t σ H fun vs H1 => newI C sp E vs H1 Q) := ⟨fun h => by
  unfold tMake
  simp only [List.append_nil]
  exact h⟩
end

/-! ### methods and makings that may raise, in a try -/
section
variable {X : Cx} {CX : CXT} {k : Nat} {f C : Addr} {fd : FuncData} {ps : List Str} {sp : Sp} {E : L2.St → XK} {x m : Str} {p pos apos : Pos} {e o : Expr} {es : List Expr} {ta : TE} {t : TA}
def tMtS (C : Addr) (m : Str) (sp : Sp) (E : L2.St → XK) (ta : TE) (t : TA) : TE := fun σ H Q => ta σ H fun x H1 => ∃ a dx fs, x = .ref a ∧ H1 a = some (.ins C dx fs) ∧ fs.lookup m = none ∧ t σ H1 fun vs H2 => sp (x :: vs) H2 Q (E σ)
theorem pe_mtS {pl : Sem Bool} (he : PE X o ta) (c : Cls X.K C) (hm : Meth X.K C m f) (F : FnOk X.prog X.w X.K X.mg X.base CX k f fd ps sp) (hr : Room k X.A) (hb : Binds X.K fd ps []) (hx : ∀ σ, PassesAt CX X σ (E σ)) (ha : PA X (e :: es) t)
    (hst : starEach (e :: es) X.env = (false, eval e X.env) :: starEach es X.env := by rfl) (hpl : (backTo pos (starEach es X.env)).any (·.1) = false := by rfl)
    (ht : eval (.Call (.Attribute o m apos) (e :: es) [] pos) X.env = (do
      let ov ← eval o X.env
      standAt apos.atName
      let (f, first) ← holding [ov] (getMethod ov m pl)
      callWith pos f first (backTo pos (starEach (e :: es) X.env)) (backToKw pos (keywordEach [] X.env))) := by rfl) :
    PE X (.Call (.Attribute o m apos) (e :: es) [] pos) (tMtS C m sp E ta t) := by
  refine ⟨fun pins s σ H Q I h => ?_⟩
  refine PySem.W.methodCall_KW (pl := pl) (thn (he.run pins s σ H _ I h) fun u s1 ⟨x, H1, I1, rx, a, dx, fs, ex, ea, l, q⟩ => ?_) ht
  subst ex
  obtain rfl : u = Value.ref a := rx
  refine getmeth_ok I1 ea c hm l ?_
  refine PySem.W.callWith_K (first := [.ref a]) (h₀ := X.base) I.ok.mod.kin hm.kp (thn (ha.run pos pins s1 σ H1 _ I1 q) fun us s2 ⟨vs, H2, I2, r, q2⟩ => ⟨I2.kIn, ?_⟩) hst hpl
  exact run_fnS (us := .ref a :: us) (vs := .ref a :: vs) F hr hb (hx σ) I2 (.cons rfl r) q2
def tMakeS (C : Addr) (sp : Sp) (E : L2.St → XK) (t : TA) : TE := fun σ H Q => t σ H fun vs H1 => ∀ x dx, H1 x = none → H1 dx = none → dx ≠ x → sp (.ref x :: vs) (upd (upd H1 dx (.own x)) x (.ins C dx [])) (fun v H2 => v = .non ∧ Q (.ref x) H2) (E σ)
theorem pe_makeS (M : Mk X.K C f) (F : FnOk X.prog X.w X.K X.mg X.base CX k f fd ps sp) (hr : Room (k + 1) X.A) (hg : Gl X x) (hm : X.mg x = some (.ref C)) (hb : Binds X.K fd ps []) (hx : ∀ σ, PassesAt CX X σ (E σ))
    (ha : PA X (e :: es) t) (hdb : (x == ("__debug__" : Str)) = false := by decide) (he : starEach (e :: es) X.env = (false, eval e X.env) :: starEach es X.env := by rfl) (hpl : (backTo pos (starEach es X.env)).any (·.1) = false := by rfl) :
    PE X (.Call (.Name x p) (e :: es) [] pos) (tMakeS C sp E t) := by
  refine ⟨fun pins s σ H Q I h => ?_⟩
  refine wpAny_Call_Name_kw (ld_glob I hg hm ?_ hdb)
  refine PySem.W.callWith_K (h₀ := X.base) I.ok.mod.kin M.kp (thn (ha.run pos pins s σ H _ I h) fun us s1 ⟨vs, H1, I1, r, q⟩ => ⟨I1.kIn, ?_⟩) he hpl
  have hq := q (s1.heap.objs.size + 1) s1.heap.objs.size (I1.hok.fresh (Nat.le_succ _)) (I1.hok.fresh (Nat.le_refl _)) (Nat.ne_of_lt (Nat.lt_succ_self _))
  have I2 := Inv.made (C := C) I1
  have r2 : Vals (V.ref (s1.heap.objs.size + 1) :: vs) (Value.ref (s1.heap.objs.size + 1) :: us) := .cons rfl r
  have hl : (Value.ref (s1.heap.objs.size + 1) :: us ++ []).length = ps.length := by
    have e := r2.length
    rw [F.len _ _ _ _ hq] at e
    rw [List.append_nil]
    exact e.symm
  have b := hb _ (Value.ref (s1.heap.objs.size + 1) :: us) I2.kIn hl
  rw [List.append_nil] at b
  refine wpAny_call (make_map (f := f) I1.kIn M.makes M.init (beq_iff_eq.mp M.fn) (codeAny_mono (F.run _ X.stack _ _ ⟨Value.ref (s1.heap.objs.size + 1) :: us, []⟩ (Value.ref (s1.heap.objs.size + 1) :: us) _ _ (E σ) (hr.make C us [])
    (I2.env0.make C us []) b r2 hq) fun r s' hq' => ?_))
  cases r with
  | error e => exact hx σ pins _ _ e s' I2 hq'
  | ok fl =>
    cases fl with
    | ret u =>
      obtain ⟨v, H', I3, rv, ev, q3⟩ := I2.after hq'
      subst ev
      exact ⟨rv, ⟨V.ref (s1.heap.objs.size + 1), H', I3, rfl, q3⟩⟩
    | next => exact False.elim hq'
    | brk => exact False.elim hq'
    | cont => exact False.elim hq'
end
section
variable {σ : L2.St} {H : Hp} {Q : VK} {ta : TE} {t : TA} {m : Str} {C : Addr}
instance {sp : Sp} {E : L2.St → XK} : Stp (tMtS C m sp E ta t σ H Q) (ta σ H fun x H1 => mF C m x H1 (t σ H1 fun vs H2 => sp (x :: vs) H2 Q (E σ))) := ⟨id⟩
instance {sp : Sp} {E : L2.St → XK} : Stp (tMakeS C sp E t σ H Q) (t σ H fun vs H1 => newI C sp (E σ) vs H1 Q) := ⟨id⟩
end
/-! ### a comprehension over a range whose items are new things, each by itself -/
section
variable {K : PySem.W.Frag} {σ : L2.St} {H1 : Hp} {Q : VK} {g : TG} {tt : TT} {te : TE} {vs : List Nat}
theorem lc_rowsR {QD : Addr → Hp → Prop} {lo : Int} {n : Nat} (hz : n ≤ 50000) (F : Nat → HO)
    (step : ∀ (i : Nat) H', i < n → Same H1 H' → ∀ (R : V → Hp → Prop) (R0 : Hp → Prop), (∀ p H'', H' p = none → Same H' H'' → H'' p = some (F i) → R (.ref p) H'') →
      g (.int (lo + (i : Nat))) (wipe σ vs) H' fun σ2 H2 => wipe σ2 vs = wipe σ vs ∧ tt σ2 H2 fun b H3 => if b = true then te σ2 H3 R else R0 H3)
    (h : ∀ (D : Addr) (rs : List Addr) (H' : Hp), H1 D = none → Same H1 H' → H' D = some (.lst (rs.map V.ref)) → rs.length = n → rs.Nodup → D ∉ rs → (∀ r ∈ rs, H1 r = none) → (∀ (j : Nat) r, rs[j]? = some r → H' r = some (F j)) → QD D H') :
    ∀ D, H1 D = none → ∃ W : Nat → Nat → Hp → Prop, (∃ m, W 0 m (upd H1 D (.lst []))) ∧ ∀ i m H, W i m H →
      ((Itr lo n).stop i H ∧ QD D H) ∨ ((Itr lo n).go i H ∧ ∃ Nx : Hp → Prop, (∀ H', Nx H' → ∃ m', m' < m ∧ W (i + 1) m' H') ∧ ∀ x H', (Itr lo n).yld i H x H' → g x (wipe σ vs) H' fun σ2 H2 => wipe σ2 vs = wipe σ vs ∧ tt σ2 H2 fun b H3 =>
        if b = true then te σ2 H3 fun y H4 => ∃ acc, H4 D = some (.lst acc) ∧ acc.length < sizeLine ∧ Nx (upd H4 D (.lst (acc ++ [y]))) else Nx H3) := by
  refine fun D nD => lc_range (fun i H => Same H1 H ∧ ∃ rs : List Addr, H D = some (.lst (rs.map V.ref)) ∧ rs.length = i ∧ rs.Nodup ∧ D ∉ rs ∧ (∀ r ∈ rs, H1 r = none) ∧ ∀ (j : Nat) r, rs[j]? = some r → H r = some (F j))
    ⟨same_new nD, [], by rw [upd_same]; rfl, rfl, List.nodup_nil, by simp, (fun r z => by cases z), (fun j r z => by simp at z)⟩ ?_ ?_
  · rintro i H hi ⟨sm, rs, hD, lr, nd, dr, fr, at_⟩
    refine step i H hi sm _ _ (fun p H'' np s2 ep => ⟨_, s2 _ _ hD, szl (by simp; omega), same_mut (sm.trans s2) nD, rs ++ [p], ?_, by simp [lr], ?_, ?_, ?_, ?_⟩)
    · rw [upd_same, List.map_append]; rfl
    · rw [List.nodup_append]
      refine ⟨nd, by simp, fun r hr q hq e => ?_⟩
      rw [List.mem_singleton.mp hq] at e
      subst e
      obtain ⟨j, hj⟩ := List.mem_iff_getElem?.mp hr
      rw [at_ j _ hj] at np
      cases np
    · intro z
      rcases List.mem_append.mp z with z | z
      · exact dr z
      · rw [List.mem_singleton.mp z] at hD
        rw [hD] at np
        cases np
    · intro r hr
      rcases List.mem_append.mp hr with hr | hr
      · exact fr r hr
      · rw [List.mem_singleton.mp hr]; exact sm.free np
    · intro j r hr
      have rD : r ≠ D := fun e => by
        rcases List.mem_append.mp (List.mem_of_getElem? hr) with z | z
        · exact dr (e ▸ z)
        · rw [List.mem_singleton.mp z] at e
          rw [e, hD] at np
          cases np
      rw [upd_ne rD]
      by_cases c : j < rs.length
      · rw [List.getElem?_append_left c] at hr
        exact s2 _ _ (at_ j r hr)
      · have hj : j = i := by
          have := (List.getElem?_eq_some_iff.mp hr).1
          simp at this
          omega
        subst hj
        rw [List.getElem?_append_right (by omega), lr, Nat.sub_self] at hr
        cases hr
        exact ep
  · rintro H ⟨sm, rs, hD, lr, nd, dr, fr, at_⟩
    exact h D rs H nD sm hD lr nd dr fr at_
end
/-! ### dicts with whole numbers for keys -/
section
variable {σ : L2.St} {H : Hp} {Q : VK} {td ty tx tv : TE} {p : Addr} {kvs : List (Key × V)} {t : Int} {v z : V} {nx bk ct : L2.St → Hp → Prop} {rt : VK}
def newD (H : Hp) (Q : VK) : Prop := ∀ p, H p = none → Q (.ref p) (upd H p (.dK []))
instance : Stp (tDNewK σ H Q) (newD H Q) := ⟨id⟩
theorem kD (h : ∀ p H', H p = none → Same H H' → H' p = some (.dK []) → Q (.ref p) H') : newD H Q := fun p np => h p _ np (same_new np) upd_same
def aD (x : V) (H : Hp) (R : Addr → Prop) : Prop := ∃ a, x = .ref a ∧ IsD H a ∧ R a
def gD2 (a : Addr) (y z : V) (H : Hp) (Q : VK) : Prop := ∃ o, DGet H a y o ∧ Q (o.getD z) H
instance : Stp (tDGet2 td ty tx σ H Q) (td σ H fun x H1 => aD x H1 fun a => ty σ H1 fun y H2 => tx σ H2 fun z H3 => gD2 a y z H3 Q) := ⟨id⟩
theorem k_aD {R : Addr → Prop} (e : H p = some (.dK kvs)) (h : R p) : aD (.ref p) H R := ⟨p, rfl, .inl ⟨kvs, .inl e⟩, h⟩
theorem k_gD2 (e : H p = some (.dK kvs)) (h : Q ((valV kvs (.inl t)).getD z) H) : gD2 p (.int t) z H Q := ⟨_, DGet.k (k := .inl t) e, h⟩
def pD (x y v : V) (H : Hp) (N : Hp → Prop) : Prop := ∃ a H4, x = .ref a ∧ DPut H a y v H4 ∧ N H4
instance : Stp (sDPut td ty tv ⟨nx, rt, bk, ct⟩ σ H) (tv σ H fun v H1 => td σ H1 fun x H2 => ty σ H2 fun y H3 => pD x y v H3 (nx σ)) := ⟨id⟩
theorem k_pD {N : Hp → Prop} (e : H p = some (.dK kvs)) (l : kvs.length < 100000) (h : N (upd H p (.dK (putK kvs (.inl t) v)))) : pD (.ref p) (.int t) v H N := ⟨p, _, rfl, DPut.k (k := .inl t) e (szl l), h⟩
def gMx (x : V) (H : Hp) (Q : VK) : Prop := ∃ (a : Addr) (kvs : List (Key × V)) (is : List Int), x = V.ref a ∧ H a = some (.dK kvs) ∧ kvs.map (·.2) = is.map V.int ∧ is ≠ [] ∧ ∀ m, m ∈ is → (∀ j ∈ is, j ≤ m) → Q (.int m) H
instance : Stp (tMaxVals td σ H Q) (td σ H fun x H1 => gMx x H1 Q) := ⟨id⟩
theorem k_gMx {is : List Int} (e : H p = some (.dK kvs)) (hv : kvs.map (·.2) = is.map V.int) (ne : is ≠ []) (h : ∀ m, m ∈ is → (∀ j ∈ is, j ≤ m) → Q (.int m) H) : gMx (.ref p) H Q := ⟨p, kvs, is, rfl, e, hv, ne, h⟩
end
/-! ### list.insert -/
def rIns : V → List V → Hp → VK → Prop := fun x vs H Q => ∃ (l : Addr) (xs : List V) (i : Int) (y : V), x = .ref l ∧ vs = [.int i, y] ∧ H l = some (.lst xs) ∧ xs.length < sizeLine ∧ 0 ≤ i ∧ i < 2 ^ 63 ∧ Q .non (upd H l (.lst (xs.take i.toNat ++ [y] ++ xs.drop i.toNat)))
theorem k_ins {H : Hp} {Q : VK} {l : Addr} {xs : List V} {i : Int} {y : V} (e : H l = some (.lst xs)) (hl : xs.length < 100000) (h0 : 0 ≤ i) (h1 : i < 1000000) (h : Q .non (upd H l (.lst (xs.take i.toNat ++ [y] ++ xs.drop i.toNat)))) : rIns (.ref l) [.int i, y] H Q := ⟨l, xs, i, y, rfl, rfl, e, szl hl, h0, by omega, h⟩
/-! ### reads of a dict, loops over its keys -/
section
variable {σ : L2.St} {H : Hp} {Q : VK} {td ty : TE} {p : Addr} {kvs : List (Key × V)} {t : Int} {v : V} {nx bk ct : L2.St → Hp → Prop} {rt : VK}
def gD1 (x y : V) (H : Hp) (Q : VK) : Prop := ∃ a v, x = .ref a ∧ DGet H a y (some v) ∧ Q v H
instance : Stp (tDGet td ty σ H Q) (td σ H fun x H1 => ty σ H1 fun y H2 => gD1 x y H2 Q) := ⟨id⟩
theorem k_gD1 (e : Rd H p (.dK kvs)) (hv : valV kvs (.inl t) = some v) (h : Q v H) : gD1 (.ref p) (.int t) H Q := ⟨p, v, rfl, .inl ⟨kvs, .inl t, e, rfl, hv.symm⟩, h⟩
theorem upd_self {H : Hp} {d : Addr} {u : HO} (h : H d = some u) : upd H d u = H := by
  funext b
  unfold upd
  split
  · rename_i e; rw [e, h]
  · rfl
/-- a for over the keys of a dict of numbers; the heap stays -/
theorem forD {g : TG} {tb : TS} {D : Ends} (hd : H p = some (.dK kvs)) (Pv : Nat → L2.St → Prop) (h0 : Pv 0 σ)
    (htd : ∀ (R : V → Hp → Prop) od, R (.ref p) (upd H p (.frz od (.dK kvs))) → td σ (upd H p (.frz od (.dK kvs))) R)
    (hs : ∀ (od : Obj) (i : Nat) k v σ, kvs[i]? = some (k, v) → Pv i σ → ∀ (N B C : L2.St → Hp → Prop) (rt : VK), (∀ σ', Pv (i + 1) σ' → N σ' (upd H p (.frz od (.dK kvs)))) → (∀ v, D.rt v H → rt v (upd H p (.frz od (.dK kvs)))) →
      g (kV k) σ (upd H p (.frz od (.dK kvs))) fun σ2 H2 => tb ⟨N, rt, B, C⟩ σ2 H2)
    (fin : ∀ σ', Pv kvs.length σ' → D.nx σ' H) : tLock (tFor (iKeys td) g tb) D σ H := by
  refine ⟨p, .dK kvs, hd, trivial, fun od => ?_⟩
  refine htd _ od ⟨p, od, rfl, .inl ⟨kvs, upd_same, ?_⟩⟩
  have back : upd (upd H p (.frz od (.dK kvs))) p (.dK kvs) = H := by rw [upd_upd, upd_self hd]
  refine for_it walk_keys (fun i σ' H' => H' = upd H p (.frz od (.dK kvs)) ∧ Pv i σ') ⟨rfl, h0⟩ (fun i σ' H' _ e => by rw [e.1]; exact upd_same) ?_ ?_
  · rintro i x σ' H' H'' hi ⟨rfl, pv⟩ ⟨rfl, k, v, hkv, rfl⟩
    exact hs od i k v σ' hkv pv _ _ _ _ (fun σ' h => ⟨rfl, h⟩) (fun v h => ⟨upd_same, by rw [back]; exact h⟩)
  · rintro σ' H' ⟨rfl, pv⟩
    exact ⟨upd_same, by rw [back]; exact fin σ' pv⟩
end
/-- a dict of counts -/
structure Cnt (kvs : List (Key × V)) (c : Int → Nat) (m : Nat) : Prop where
  isI : ∃ is : List Int, kvs.map (·.2) = is.map V.int
  val : ∀ t, valV kvs (.inl t) = if c t = 0 then none else some (.int (c t : Nat))
  len : kvs.length ≤ m
theorem Cnt.nil : Cnt [] (fun _ => 0) 0 := ⟨⟨[], rfl⟩, fun t => by rw [valV_nil]; rfl, Nat.le_refl _⟩
theorem putK_lenN (c : List (Key × V)) (k : Key) (x : V) : (putK c k x).length ≤ c.length + 1 := by
  unfold putK
  split
  · rw [List.length_map]; omega
  · rw [List.length_append]; simp
theorem mapK_ints {k : Key} {x : Int} : ∀ (kvs : List (Key × V)) (is : List Int), kvs.map (·.2) = is.map V.int → ∃ is : List Int, (kvs.map fun kv => if kv.1 = k then (kv.1, V.int x) else kv).map (·.2) = is.map V.int
  | [], _, _ => ⟨[], rfl⟩
  | a :: r, [], h => by simp at h
  | a :: r, j :: js, h => by
    simp only [List.map_cons, List.cons.injEq] at h
    obtain ⟨is', h'⟩ := mapK_ints r js h.2
    by_cases c : a.1 = k
    · exact ⟨x :: is', by rw [List.map_cons, List.map_cons, if_pos c, h']; rfl⟩
    · exact ⟨j :: is', by rw [List.map_cons, List.map_cons, if_neg c, h', h.1]; rfl⟩
theorem putK_ints {kvs : List (Key × V)} {k : Key} {x : Int} (h : ∃ is : List Int, kvs.map (·.2) = is.map V.int) : ∃ is : List Int, (putK kvs k (.int x)).map (·.2) = is.map V.int := by
  obtain ⟨is, h⟩ := h
  unfold putK
  split
  · exact mapK_ints kvs is h
  · exact ⟨is ++ [x], by rw [List.map_append, List.map_append, h]; rfl⟩
theorem Cnt.put {kvs : List (Key × V)} {c : Int → Nat} {m : Nat} (h : Cnt kvs c m) (t : Int) {x : Int} (hx : x = ((c t + 1 : Nat) : Int)) : Cnt (putK kvs (.inl t) (.int x)) (fun s => if s = t then c s + 1 else c s) (m + 1) := by
  obtain ⟨h1, h2, h3⟩ := h
  refine ⟨putK_ints h1, fun s => ?_, Nat.le_trans (putK_lenN _ _ _) (by omega)⟩
  rw [valV_put]
  by_cases e : s = t
  · subst e
    rw [if_pos rfl, if_pos rfl, if_neg (by omega), hx]
  · rw [if_neg (fun z => e (by simpa using z)), if_neg e]
    exact h2 s
theorem Cnt.get {kvs : List (Key × V)} {c : Int → Nat} {m : Nat} (h : Cnt kvs c m) (t : Int) : (valV kvs (.inl t)).getD (.int 0) = .int (c t : Nat) := by
  rw [h.val t]
  split
  · rename_i e
    rw [e]; rfl
  · rfl
theorem Cnt.mem {kvs : List (Key × V)} {c : Int → Nat} {m : Nat} (h : Cnt kvs c m) {is : List Int} (hi : kvs.map (·.2) = is.map V.int) {t : Int} (ht : c t ≠ 0) : ((c t : Nat) : Int) ∈ is := by
  have hv := h.val t
  rw [if_neg ht] at hv
  unfold valV at hv
  obtain ⟨kv, hk, e⟩ := Option.map_eq_some_iff.mp hv
  have hm : V.int ((c t : Nat) : Int) ∈ is.map V.int := by
    rw [← hi, ← e]
    exact List.mem_map_of_mem (List.mem_of_find?_eq_some hk)
  obtain ⟨y, hy, e2⟩ := List.mem_map.mp hm
  cases e2
  exact hy
theorem Cnt.ext {kvs : List (Key × V)} {c c' : Int → Nat} {m m' : Nat} (h : Cnt kvs c m) (e : ∀ t, c t = c' t) (l : m ≤ m') : Cnt kvs c' m' := by
  obtain rfl : c = c' := funext e
  exact ⟨h.isI, h.val, Nat.le_trans h.len l⟩
/-! ### a list told by its places -/
theorem getR {n l : Nat} {f : Nat → Int} (h : l < n) : ((List.range n).map f)[l]? = some (f l) := by
  rw [List.getElem?_map, List.getElem?_range h]; rfl
theorem setR {n l : Nat} {f : Nat → Int} {v : Int} : ((List.range n).map f).set l v = (List.range n).map fun j => if j = l then v else f j := by
  refine List.ext_getElem? fun k => ?_
  rw [List.getElem?_set]
  by_cases c : l = k
  · subst c
    rw [if_pos rfl]
    by_cases d : l < n
    · rw [if_pos (by simpa using d), getR d, if_pos rfl]
    · rw [if_neg (by simpa using d), List.getElem?_eq_none (by simpa using d)]
  · rw [if_neg c]
    by_cases d : k < n
    · rw [getR d, getR d, if_neg (fun e => c e.symm)]
    · rw [List.getElem?_eq_none (by simpa using d), List.getElem?_eq_none (by simpa using d)]
/-! ### a range with a step; bits to the right -/
instance {σ : L2.St} {H : Hp} {ta : TA} {R : It → Hp → Prop} : Stp (iRng3 ta σ H R) (ta σ H fun vs H1 => ∃ (i j c : Int) (n : Nat), vs = [.int i, .int j, .int c] ∧ RgC i j c n ∧ R (Itc i c n) H1) := ⟨id⟩
theorem forC {σ : L2.St} {H : Hp} {nx : L2.St → Hp → Prop} {rt : VK} {lo c : Int} {n : Nat} {g : TG} {tb : TS} (Pv : Nat → L2.St → Hp → Prop) (h0 : Pv 0 σ H)
    (hs : ∀ (i : Nat) σ H, i < n → Pv i σ H → g (.int (lo + (i : Nat) * c)) σ H fun σ2 H2 => tb ⟨Pv (i + 1), rt, nx, Pv (i + 1)⟩ σ2 H2) (hd : ∀ σ H, Pv n σ H → nx σ H) :
    ∃ W : Nat → Nat → L2.St → Hp → Prop, (∃ m, W 0 m σ H) ∧ ∀ i m σ H, W i m σ H →
      ((Itc lo c n).stop i H ∧ nx σ H) ∨ ((Itc lo c n).go i H ∧ ∃ N : L2.St → Hp → Prop, (∀ σ' H', N σ' H' → ∃ m', m' < m ∧ W (i + 1) m' σ' H') ∧ ∀ x H', (Itc lo c n).yld i H x H' → g x σ H' fun σ2 H2 => tb ⟨N, rt, nx, N⟩ σ2 H2) :=
  for_rangeC (D := ⟨nx, rt, fun _ _ => False, fun _ _ => False⟩) Pv h0 hs hd
def xShr : R2 := rI (fun _ j => 0 ≤ j) fun i j => .int (i / 2 ^ j.toNat)
theorem k_shr {H : Hp} {Q : VK} {i j : Int} (hc : 0 ≤ j) (h : Q (.int (i / 2 ^ j.toNat)) H) : xShr (.int i) (.int j) H Q := ⟨i, j, rfl, rfl, hc, h⟩
/-! ### dict(d), len(d), k in d -/
def rDictD : List V → Hp → VK → Prop := fun xs H Q => ∃ (a : Addr) (kvs : List (Key × V)), xs = [.ref a] ∧ Rd H a (.dK kvs) ∧ ∀ p, H p = none → Q (.ref p) (upd H p (.dK kvs))
theorem q_dictD {X : Cx} : CallR X (.type "dict") rDictD := call_dictD
def rLenD : List V → Hp → VK → Prop := fun xs H Q => ∃ (a : Addr) (kvs : List (Key × V)), xs = [V.ref a] ∧ H a = some (.dK kvs) ∧ Q (.int kvs.length) H
theorem q_lenD {X : Cx} : CallR X (.builtin "len") rLenD := call_lenD
section
variable {σ : L2.St} {H : Hp} {Q : VK} {td ty : TE} {p : Addr} {kvs : List (Key × V)} {t : Int}
def iD (neg : Bool) (y x : V) (H : Hp) (Q : VK) : Prop := ∃ a o, x = .ref a ∧ DGet H a y o ∧ Q (.bl (if neg then !o.isSome else o.isSome)) H
instance : Stp (tDIn ty td σ H Q) (ty σ H fun y H1 => td σ H1 fun x H2 => iD false y x H2 Q) := ⟨id⟩
instance : Stp (tDNotIn ty td σ H Q) (ty σ H fun y H1 => td σ H1 fun x H2 => iD true y x H2 Q) := ⟨id⟩
theorem k_iD {neg : Bool} (e : H p = some (.dK kvs)) (h : Q (.bl (if neg then !(valV kvs (.inl t)).isSome else (valV kvs (.inl t)).isSome)) H) : iD neg (.int t) (.ref p) H Q := ⟨p, _, rfl, DGet.k (k := .inl t) e, h⟩
theorem k_dictD (e : H p = some (.dK kvs)) (h : ∀ q H', H q = none → Same H H' → H' q = some (.dK kvs) → Q (.ref q) H') : rDictD [.ref p] H Q := ⟨p, kvs, rfl, .inl e, fun q nq => h q _ nq (same_new nq) upd_same⟩
theorem k_lenD (e : H p = some (.dK kvs)) (h : Q (.int kvs.length) H) : rLenD [.ref p] H Q := ⟨p, kvs, rfl, e, h⟩
end
theorem u65 {k : Nat} {A : Around} (r : Room k A) : A.units + 65 < cLine := by have := r.un; omega
end Cm

namespace HT
open PySem PySem.Spec PyProof.Rows
section
variable {prog : Program} {w : World} {A : Around} {E : Value → Shared → Prop} {s : Shared}
/-! ### t[::-1] -/
theorem sliceApplied_rev {sl : Addr} {vs : Value} {n : Nat} {Q : Int × Int × Nat → Shared → Prop} (hs : s.heap.IsSliceOf sl .none .none vs) (ps : IsPart vs (some (-1)))
    (h : Q ((n : Int) - 1, -1, n) s) : wpAny (model prog w) A (Builtin.Slice.sliceApplied (.ref sl) (pure (n : Int))) Q E s := by
  obtain ⟨os, hos, hcs, hds⟩ := id hs
  unfold Builtin.Slice.sliceApplied Builtin.Slice.sliceFields
  refine wpAny_bind (wpAny_bind (wpAny_field hos hds (x := .none) rfl (wpAny_bind (wpAny_field hos hds (x := .none) rfl (wpAny_bind (wpAny_field hos hds (x := vs) rfl (wpAny_pure ?_)))))))
  refine wpAny_bind (slicePart_ ps ?_)
  show wpAny _ _ (if ((-1 : Int) == 0) = true then _ else _) _ _ s
  rw [if_neg (by decide)]
  refine wpAny_bind (slicePart_none (wpAny_bind (slicePart_none (wpAny_bind (wpAny_pure ?_)))))
  show wpAny _ _ (match Builtin.Slice.sliceAdjust none none (-1) (n : Int) with | (lo, hi) => pure (lo, (-1 : Int), Builtin.Slice.slicePlaces lo hi (-1))) _ _ s
  rw [show Builtin.Slice.sliceAdjust none none (-1) (n : Int) = ((n : Int) - 1, -1) by unfold Builtin.Slice.sliceAdjust; simp]
  show wpAny _ _ (pure ((n : Int) - 1, (-1 : Int), Builtin.Slice.slicePlaces ((n : Int) - 1) (-1) (-1))) _ _ s
  have e : Builtin.Slice.slicePlaces ((n : Int) - 1) (-1) (-1) = n := by
    unfold Builtin.Slice.slicePlaces
    rw [if_neg (by decide)]
    split
    · rw [show (- -1 : Int) = 1 by decide, Int.ediv_one]; omega
    · omega
  rw [e]
  exact wpAny_pure h
theorem fm_congr {α β : Type} {f g : α → Option β} : ∀ l : List α, (∀ x ∈ l, f x = g x) → l.filterMap f = l.filterMap g
  | [], _ => rfl
  | a :: r, h => by
    rw [List.filterMap_cons, List.filterMap_cons, h a List.mem_cons_self, fm_congr r fun x hx => h x (List.mem_cons_of_mem _ hx)]
theorem pick_rev (xs : Array Value) : ((List.range xs.size).filterMap fun (m : Nat) => xs[((xs.size : Int) - 1 + (m : Int) * -1).toNat]?).toArray = xs.toList.reverse.toArray := by
  congr 1
  refine List.ext_getElem? fun i => ?_
  have e : (List.range xs.size).filterMap (fun (m : Nat) => xs[((xs.size : Int) - 1 + (m : Int) * -1).toNat]?) = (List.range xs.size).map fun m => xs.toList.getD (xs.size - 1 - m) .none := by
    rw [← List.filterMap_eq_map]
    refine fm_congr _ fun m hm => ?_
    have hm' := List.mem_range.mp hm
    have : ((xs.size : Int) - 1 + (m : Int) * -1).toNat = xs.size - 1 - m := by omega
    rw [this]
    have hl : xs.size - 1 - m < xs.size := by omega
    simp [List.getD_eq_getElem?_getD, hl]
  rw [e, List.getElem?_map]
  by_cases c : i < xs.size
  · rw [List.getElem?_range c, List.getElem?_reverse (by simpa using c)]
    have hl : xs.size - 1 - i < xs.size := by omega
    simp [List.getD_eq_getElem?_getD, hl]
  · rw [List.getElem?_eq_none (by simpa using c), List.getElem?_eq_none (by simpa using c)]
    rfl
theorem getItem_tuple_rev {t sl : Addr} {items : Array Value} {vs : Value} {Q : Value → Shared → Prop} (ht : IsTup s.heap t items) (hs : s.heap.IsSliceOf sl .none .none vs) (ps : IsPart vs (some (-1)))
    (h : Q (.ref s.heap.objs.size) { s with heap := s.heap.push { cls := .type "tuple", data := .seq items.toList.reverse.toArray } })
    (hsz : items.size ≤ sizeLine) : wpAny (model prog w) A (getItem (.ref t) (.ref sl)) Q E s := by
  have htake : sizeOk (.seq items.toList.reverse.toArray) := by
    show items.toList.reverse.toArray.size ≤ sizeLine
    rw [List.size_toArray, List.length_reverse, Array.length_toList]
    exact hsz
  obtain ⟨os, hos, hcs, hds⟩ := id hs
  have hTs : s.TypeIs (.ref sl) "slice" := ⟨os, hos, hcs⟩
  unfold getItem
  try with_reducible refine wpAny_holding ?_
  first | refine wpAny_bind (wpAny_pure ?_) | skip
  refine wpAny_bind (wpAny_sequenceKey ht.typeIs (by decide) ?_)
  refine wpAny_bind (wpAny_callSpecial?_slot (name := Str.ofString "__getitem__") ht.typeIs PyProof.Rows.slot_tuple_getitem
    (wpAny_call_entry PyProof.Rows.slot_tuple_getitem ht.typeIs entry_tuple_getitem ?_ (args_tuple_getitem _ _)))
  show wpAny _ _ (Builtin.Tuple.tupleItemsOf (.ref t) >>= _) _ _ s
  refine wpAny_bind (tupleItemsOf_ ht ?_)
  refine wpAny_bind (wpAny_typeOf hTs ?_)
  rw [if_pos (by decide)]
  refine wpAny_bind (sliceApplied_rev hs ps ?_)
  have hno : ¬ ((((items.size : Int) - 1) == 0 && (-1 : Int) == 1 && items.size == items.size) = true) := by
    intro q
    rw [Bool.and_eq_true, Bool.and_eq_true] at q
    exact absurd q.1.2 (by decide)
  show wpAny _ _ (if (((items.size : Int) - 1) == 0 && (-1 : Int) == 1 && items.size == items.size) = true then _ else _) _ _ s
  rw [if_neg hno, pick_rev]
  first
    | exact wpAny_bind (m := Builtin.Tuple.tupleExact _) (wpAny_newObj_type (wpAny_pure ⟨_, rfl, wpAny_pure h⟩) htake)
    | exact wpAny_bind (m := Builtin.Tuple.tupleExact _) (wpAny_newObj_type (wpAny_bind (wpAny_pure (wpAny_pure ⟨_, rfl, wpAny_pure h⟩))) htake)
/-! ### list(reversed(list)) -/
end
end HT
namespace HT
open PySem PySem.Spec PyProof.Rows L2 RT
section
variable {prog : Program} {w : World} {A : Around} {E : Value → Shared → Prop} {s : Shared}
theorem extend_rev {R : Result → Shared → Prop} {it l S : Addr} {items : Array Value} {c0 : Nat} (hh : A.handled = none) (res : Value) (hit : s.heap.IsRevIter it l ((items.size : Int) - 1)) (hl : s.heap.IsList l items) (hne : l ≠ it) (hn : items.size ≤ sizeLine) (hSi : S ≠ it) (hSl : S ≠ l)
    (hS : s.heap.get? S = some { cls := .type "list", data := .seq #[] c0 })
    (hR : ∀ (h' : Heap) (tk : Nat) (acc : Array Value) (c' : Nat), (∀ b o, b ≠ it → b ≠ S → s.heap.get? b = some o → h'.get? b = some o) → h'.get? S = some { cls := .type "list", dict := none, data := .seq acc c', slots := #[] } → ItemsOf (fun i v => items[items.size - 1 - i]? = some v) acc items.size → R (.ok (.ret res)) { s with heap := h', toks := tk }) :
    wpAny (model prog w) A.in1 (Builtin.List.listExtendWith (.ref S) (.ref it) res)
      (fun fin s' => match fin with | .done f => R (.ok f) s' | .again c' => c'.quiet = true ∧ codeAny (model prog w) A c' R s') (fun e s' => R (.error e) s') s := by
  have W := (Walks.listRev (prog := prog) (w := w) (A := A.in1) hh it l hne items).toS
  have hSf : S ∉ [it, l] := by simp only [List.mem_cons, List.not_mem_nil, or_false, not_or]; exact ⟨hSi, hSl⟩
  have hT : s.TypeIs (.ref it) "list_reverseiterator" := hit.typeIs
  have h1 : Builtin.List.listSameRef (.ref S) (.ref it) = false := by simp [Builtin.List.listSameRef, hSi]
  unfold Builtin.List.listExtendWith
  refine wpAny_bind (wpAny_typeOf hT ?_)
  rw [if_neg (by rw [h1]; decide)]
  refine wpAny_bind (wpAny_pyIter_revIter hit ?_)
  refine wpAny_bind (wpAny_holding ?_)
  unfold Builtin.List.listLengthHint
  refine wpAny_bind (wpAny_specialOf hT nolen_lri ?_)
  show wpAny _ A.in1 (specialOf (Value.ref it) (Str.ofString "__length_hint__") >>= _) _ _ _
  refine wpAny_bind (wpAny_specialOf hT hint_lri ?_)
  generalize hid : ("list_reverseiterator.__length_hint__" : String) = id0
  wp_delta
  rw [show splitId id0 = some ("list_reverseiterator", "__length_hint__") from by subst hid; decide +kernel]
  subst hid
  refine wpAny_bind (wpAny_isInstance (b := true) hT (by rw [isSubtype_type]; kernel_rfl) ?_)
  refine wpAny_pure ?_
  rw [if_neg (by decide)]
  have e0 : ((items.size : Nat) : Int) - 1 - ((0 : Nat) : Int) = (items.size : Int) - 1 := by omega
  refine wpAny_pure ⟨plainId_quiet F.plain_extend_loop _, codeAny_extend_loopS W hn _ hSf res items.size 0 _ _ _ rfl (Nat.zero_le _) ⟨Nat.zero_le _, by rw [e0]; exact hit, hl⟩ hS (ItemsOf.nil _) fun s' acc' c' hm hS' hacc => ?_⟩
  rw [Moved.eq_with hm]
  refine hR s'.heap s'.toks acc' c' (fun b o hb hb2 e => hm.heap b o (fun hmem => ?_) e) hS' hacc
  rcases List.mem_cons.mp hmem with e' | hmem
  · exact hb2 e'
  · exact hb (List.mem_singleton.mp hmem)
theorem list_init_rev {R : Result → Shared → Prop} {it l S : Addr} {items : Array Value} (hh : A.handled = none) (hit : s.heap.IsRevIter it l ((items.size : Int) - 1)) (hl : s.heap.IsList l items) (hne : l ≠ it) (hn : items.size ≤ sizeLine) (hSi : S ≠ it) (hSl : S ≠ l)
    (hS : s.heap.get? S = some { cls := .type "list", data := .seq #[] })
    (hR : ∀ (h' : Heap) (tk : Nat) (acc : Array Value) (c' : Nat), (∀ b o, b ≠ it → b ≠ S → s.heap.get? b = some o → h'.get? b = some o) → h'.get? S = some { cls := .type "list", dict := none, data := .seq acc c', slots := #[] } → ItemsOf (fun i v => items[items.size - 1 - i]? = some v) acc items.size → R (.ok (.ret .none)) { s with heap := h', toks := tk }) :
    wpAny (model prog w) A.in1 (Builtin.«list.__init__» ⟨[.ref S, .ref it], []⟩)
      (fun fin s' => match fin with | .done f => R (.ok f) s' | .again c' => c'.quiet = true ∧ codeAny (model prog w) A c' R s') (fun e s' => R (.error e) s') s := by
  show wpAny _ A.in1 (do let old ← Builtin.List.listItems (.ref S); Builtin.List.listUpdate (.ref S) (fun _ => #[]); letGo old.toList.reverse; Builtin.List.listExtendWith (.ref S) (.ref it) .none) _ _ s
  refine wpAny_bind ?_
  unfold Builtin.List.listItems
  refine wpAny_bind (wpAny_seqItems hS rfl (wpAny_pure ?_))
  show wpAny _ A.in1 (updateSeq S (fun _ => #[]) >>= fun _ => letGo (#[] : Array Value).toList.reverse >>= fun _ => Builtin.List.listExtendWith (.ref S) (.ref it) .none) _ _ s
  refine wpAny_bind (wpAny_updateSeq hS rfl ?_)
  have hS2 := Heap.get?_update_self (Obj.mapSeq (fun _ => (#[] : Array Value))) hS rfl
  have oth : ∀ b o, b ≠ S → s.heap.get? b = some o → (s.heap.update S (Obj.mapSeq (fun _ => (#[] : Array Value)))).get? b = some o :=
    fun b o hb e => (Heap.get?_update_other _ _ (Ne.symm hb)).trans e
  refine wpAny_bind (wpAny_letGo ?_)
  have hl2 : (s.heap.update S (Obj.mapSeq (fun _ => (#[] : Array Value)))).IsList l items := by
    obtain ⟨o, e, r⟩ := hl
    exact ⟨o, oth _ _ (Ne.symm hSl) e, r⟩
  refine extend_rev hh .none (hit.at fun o e => oth _ _ (Ne.symm hSi) e) hl2 hne hn hSi hSl hS2 fun h' tk acc' c' hk hS' hacc => ?_
  exact hR h' tk acc' c' (fun b o hb hb2 e => hk b o hb hb2 (oth b o hb2 e)) hS' hacc
theorem call_list_rev {it l : Addr} {items : Array Value} {Q : Value → Shared → Prop} (hh : A.handled = none) (hit : s.heap.IsRevIter it l ((items.size : Int) - 1)) (hl : s.heap.IsList l items) (hne : l ≠ it) (hn : items.size ≤ sizeLine)
    (hQ : ∀ (h' : Heap) (tk : Nat) (acc : Array Value) (c' : Nat), (∀ b o, b ≠ it → s.heap.get? b = some o → h'.get? b = some o) → h'.get? s.heap.objs.size = some { cls := .type "list", dict := none, data := .seq acc c', slots := #[] } → ItemsOf (fun i v => items[items.size - 1 - i]? = some v) acc items.size →
      Q (.ref s.heap.objs.size) { s with heap := h', toks := tk }) :
    wpAny (model prog w) A (call (.type "list") [.ref it]) Q E s := by
  obtain ⟨oi, hoi, _⟩ := id hit
  obtain ⟨ol, hol, _⟩ := id hl
  have hSi : s.heap.objs.size ≠ it := Nat.ne_of_gt (Heap.lt_size hoi)
  have hSl : s.heap.objs.size ≠ l := Nat.ne_of_gt (Heap.lt_size hol)
  refine callType_codes (Q₁ := fun obj s₁ => obj = .ref s.heap.objs.size ∧ s₁ = { s with heap := s.heap.push { cls := .type "list", data := .seq #[] } }) F.called_list (F.typeCall_list_1 _) F.entry_list_init
    (code_list_new _ ⟨rfl, rfl⟩) fun obj s₁ h₁ => ?_
  obtain ⟨rfl, rfl⟩ := h₁
  have hS : (s.heap.push { cls := .type "list", data := .seq #[] }).get? s.heap.objs.size = some { cls := .type "list", data := .seq #[] } := Heap.get?_push_size _ rfl
  refine ⟨⟨_, hS, rfl⟩, F.args_list_init_2 _ _, list_init_rev (A := A.in1) hh (hit.at fun o e => Heap.get?_push_of_some _ e) (hl.push _) hne hn hSi hSl hS fun h' tk acc' c' hk hS' hacc => ?_⟩
  exact ⟨rfl, hQ h' tk acc' c' (fun b o hb e => hk b o hb (Nat.ne_of_lt (Heap.lt_size e)) (Heap.get?_push_of_some _ e)) hS' hacc⟩
end
end HT
namespace Cm
open PySem PySem.Spec PyProof.Rows L2 RT
section
variable {X : Cx}
def rRevT (K : PySem.W.Frag) (x : V) (H : Hp) (Q : VK) : Prop := ∃ a xs, x = .ref a ∧ SqT K H a xs ∧ ∀ p, H p = none → Q (.ref p) (upd H p (.tup xs.reverse))
def tRevT (K : PySem.W.Frag) (te : TE) : TE := fun σ H Q => te σ H fun x H1 => rRevT K x H1 Q
theorem pe_revT {e : Expr} {te : TE} {k : Nat} {p1 p2 p3 pos : Pos} (he : PE X e te) : PE X (.Subscript e (.Slice none none (some (.UnaryOp .USub (.Constant (.int 1) k p1) p2)) p3) pos) (tRevT X.K te) := by
  refine ⟨fun pins s σ H Q I h => ?_⟩
  refine Subscript_ (thn (he.run pins s σ H _ I h) fun v s1 ⟨x, H1, I1, r1, q1⟩ => ?_)
  obtain ⟨a, xs, ex, hx, q⟩ := q1
  subst ex
  cases r1
  have hst : PO X (some (.UnaryOp .USub (.Constant (.int 1) k p1) p2)) (tPart (tUn (rU fun i => .int (-i)) (tC (.int 1)))) := po_some (pe_un un_neg pe_int)
  refine wpAny_Slice (thn (po_none.run pins s1 σ H1 (fun o H2 => o = none ∧ H2 = H1) I1 ⟨rfl, rfl⟩) fun vl s2 ⟨l, H2, I2, pl, el, e2⟩ => ?_)
  subst el e2
  refine thn (po_none.run pins s2 σ H2 (fun o H3 => o = none ∧ H3 = H2) I2 ⟨rfl, rfl⟩) fun vu s3 ⟨u, H3, I3, pu, eu, e3⟩ => ?_
  subst eu e3
  refine thn (hst.run pins s3 σ H3 (fun o H4 => o = some (-1) ∧ H4 = H3) I3 ⟨1, rfl, -1, rfl, rfl, rfl⟩) fun vs s4 ⟨o, H4, I4, ps, eo, e4⟩ => ?_
  subst eo e4
  have I5 : Inv X pins σ H4 { s4 with heap := s4.heap.push { cls := .type "slice", data := .fields #[vl, vu, vs] } } := I4.kept (t' := s4.toks) fun b ob q => Heap.get?_push_of_some _ q
  obtain ⟨its, r, ht, hz⟩ := I5.tuple hx
  have hlen := r.length
  cases pl
  cases pu
  show wpAny (model X.prog X.w) X.A (subscriptTail e (.Slice none none (some (.UnaryOp .USub (.Constant (.int 1) k p1) p2)) p3) (.ref a) (.ref s4.heap.objs.size)) (EP X pins σ Q) X.xe { s4 with heap := s4.heap.push { cls := .type "slice", data := .fields #[.none, .none, vs] } }
  refine tail_any (ops := [.ref a, .ref s4.heap.objs.size]) ht.typeIs (PyProof.Rows.slot_tuple_getitem.lookup) ?_ (by with_unfolding_all rfl)
  refine HT.getItem_tuple_rev ht (Heap.IsSliceOf.new _ .none .none vs) ps ?_ (by rw [List.size_toArray]; omega)
  refine ⟨.ref _, _, I5.laid (t' := s4.toks) (o := .tup xs.reverse) (fun b ob q => Heap.get?_push_of_some _ q) (Nat.le_refl _) ?_, rfl, q _ (I5.hok.fresh (Nat.le_refl _))⟩
  exact ⟨by rw [List.length_reverse]; exact hz, _, r.reverse, IsTup.new _ _⟩
end
instance {K : PySem.W.Frag} {σ : L2.St} {H : Hp} {Q : VK} {te : TE} : Stp (tRevT K te σ H Q) (te σ H fun x H1 => rRevT K x H1 Q) := ⟨id⟩
theorem k_revT {K : PySem.W.Frag} {H : Hp} {Q : VK} {a : Addr} {xs : List V} (hs : SqT K H a xs) (h : ∀ p H', H p = none → Same H H' → H' p = some (.tup xs.reverse) → Q (.ref p) H') : rRevT K (.ref a) H Q := ⟨a, xs, rfl, hs, fun p np => h p _ np (same_new np) upd_same⟩
/-! ### is, is not of truths -/
def xIsB : R2 := rIsB
def xNotB : R2 := rNotB
instance {a b : Bool} {H : Hp} {Q : VK} : Stp (xIsB (.bl a) (.bl b) H Q) (Q (.bl (decide (a = b))) H) := ⟨fun h => ⟨a, b, rfl, rfl, h⟩⟩
instance {a b : Bool} {H : Hp} {Q : VK} : Stp (xNotB (.bl a) (.bl b) H Q) (Q (.bl (!decide (a = b))) H) := ⟨fun h => ⟨a, b, rfl, rfl, h⟩⟩
/-! ### tuple(xs) of a list -/
def rTupOf (K : PySem.W.Frag) : List V → Hp → VK → Prop := fun xs H Q => ∃ p ys, xs = [.ref p] ∧ ((SqL K H p ys ∧ ∀ l, H l = none → Q (.ref l) (upd H l (.tup ys))) ∨ (SqT K H p ys ∧ Q (.ref p) H))
theorem q_tupOf {X : Cx} : CallR X (.type "tuple") (rTupOf X.K) := call_tuple_of
theorem k_tupOf {K : PySem.W.Frag} {H : Hp} {Q : VK} {p : Addr} {ys : List V} (hs : SqL K H p ys) (h : ∀ l H', H l = none → Same H H' → H' l = some (.tup ys) → Q (.ref l) H') : rTupOf K [.ref p] H Q := ⟨p, ys, rfl, .inl ⟨hs, fun l nl => h l _ nl (same_new nl) upd_same⟩⟩
/-! ### [d[k] for k in d] -/
theorem lc_vals {σ : L2.St} {H : Hp} {Q : VK} {p : Addr} {kvs : List (Key × V)} {i l : Nat} (hd : H p = some (.dK kvs)) (hv0 : (wipe σ [l])[i]? = some (some (.ref p)) ∧ σ[i]? = some (some (.ref p))) (hv : ∀ x : V, ((wipe σ [l]).set l (some x))[i]? = some (some (.ref p))) (hl : ∀ x : V, ((wipe σ [l]).set l (some x))[l]? = some (some x)) (hwp : ∀ x : V, wipe ((wipe σ [l]).set l (some x)) [l] = wipe σ [l])
    (hn : kvs.length ≤ 50000) (nd : ∀ kv ∈ kvs, valV kvs kv.1 = some kv.2) (h : ∀ D H', H D = none → Same H H' → H' D = some (.lst (kvs.map (·.2))) → Q (.ref D) H') :
    tLockE (tLc (iKeys (tVar i)) (gName l) tYes (tDGet (tVar i) (tVar l)) [l]) σ H Q := by
  refine ⟨p, .dK kvs, hd, trivial, fun od => ?_⟩
  refine ⟨_, hv0.2, p, od, rfl, .inl ⟨kvs, upd_same, fun D nD => ?_⟩⟩
  have Dp : D ≠ p := fun z => by rw [z, upd_same] at nD; cases nD
  have nD' : H D = none := by rw [upd_ne Dp] at nD; exact nD
  refine lc_it walk_keys (fun j H' => H' = upd (upd H p (.frz od (.dK kvs))) D (.lst ((kvs.take j).map (·.2)))) (by simp) (fun j H' _ e => by rw [e, upd_ne (fun z => Dp z.symm), upd_same]) ?_ ?_
  · rintro j x H1 H2 hj rfl ⟨rfl, k, v, hk, rfl⟩
    refine ⟨hwp _, ?_⟩
    refine k_yes (iteT ?_)
    refine ⟨_, hv _, _, hl _, p, v, rfl, .inl ⟨kvs, k, .inr ⟨od, by rw [upd_ne (fun z => Dp z.symm), upd_same]⟩, rfl, (nd _ (List.mem_of_getElem? hk)).symm⟩, _, upd_same, szl (by rw [List.length_map, List.length_take]; omega), ?_⟩
    rw [upd_upd, List.take_add_one, hk, List.map_append]
    rfl
  · rintro H1 rfl
    refine ⟨by rw [upd_ne (fun z => Dp z.symm), upd_same], ?_⟩
    refine h D _ nD' (fun b o hb => ?_) ?_
    · by_cases c : b = p
      · rw [c, upd_same, ← hd, ← c, hb]
      · have bD : b ≠ D := fun z => by rw [z, nD'] at hb; cases hb
        rw [upd_ne c, upd_ne bD, upd_ne c]; exact hb
    · rw [upd_ne Dp, upd_same, List.take_length]
/-! ### d.get(k) -/
def gD1N (a : Addr) (y : V) (H : Hp) (Q : VK) : Prop := ∃ o, DGet H a y o ∧ Q (o.getD .non) H
instance {σ : L2.St} {H : Hp} {Q : VK} {td ty : TE} : Stp (tDGet1 td ty σ H Q) (td σ H fun x H1 => aD x H1 fun a => ty σ H1 fun y H2 => gD1N a y H2 Q) := ⟨id⟩
theorem k_gD1N {H : Hp} {Q : VK} {p : Addr} {kvs : List (Key × V)} {t : Int} (e : H p = some (.dK kvs)) (h : Q ((valV kvs (.inl t)).getD .non) H) : gD1N p (.int t) H Q := ⟨_, DGet.k (k := .inl t) e, h⟩
/-! ### list(reversed(xs)) of a list -/
section
variable {X : Cx}
def rLRv (K : PySem.W.Frag) (x : V) (H : Hp) (Q : VK) : Prop := ∃ a xs, x = .ref a ∧ SqL K H a xs ∧ ∀ p, H p = none → Q (.ref p) (upd H p (.lst xs.reverse))
def tLRv (K : PySem.W.Frag) (te : TE) : TE := fun σ H Q => te σ H fun x H1 => rLRv K x H1 Q
theorem pe_lRv {e : Expr} {te : TE} {p p2 pos pos2 : Pos} (hc : X.calm = true) (hg : Gl X "list") (hm : X.mg "list" = none) (hg2 : Gl X "reversed") (hm2 : X.mg "reversed" = none) (he : PE X e te)
    (hs : starEach [e] X.env = (false, eval e X.env) :: starEach [] X.env := by rfl)
    (hs2 : starEach [.Call (.Name "reversed" p2) [e] [] pos2] X.env = (false, eval (.Call (.Name "reversed" p2) [e] [] pos2) X.env) :: starEach [] X.env := by rfl) :
    PE X (.Call (.Name "list" p) [.Call (.Name "reversed" p2) [e] [] pos2] [] pos) (tLRv X.K te) := by
  refine ⟨fun pins s σ H Q I h => ?_⟩
  refine Call_ (ld_blt I hg hm boot_list (PyProof.Rows.callWith_type1 (args_cons (Call_ (ld_blt I hg2 hm2 PyProof.Rows.boot_reversed (PyProof.Rows.callWith_type1 (args_cons (thn (he.run pins s σ H _ I h) fun u s1 ⟨v, H1, I1, r1, q1⟩ => args_nil ?_) hs) hs rfl))) hs2) hs2 rfl))
  obtain ⟨a, xs, ev, hq, q⟩ := q1
  subst ev
  obtain rfl : u = Value.ref a := r1
  obtain ⟨its, rv, p', hz⟩ := I1.list hq
  refine call_reversed_list p'.isList (args_nil ?_)
  have k0 : ∀ b o, s1.heap.get? b = some o → (s1.heap.push (revObj a ((its.toArray.size : Int) - 1))).get? b = some o := fun b o e => Heap.get?_push_of_some _ e
  have I2 : Inv X pins σ H1 { s1 with heap := s1.heap.push (revObj a ((its.toArray.size : Int) - 1)) } := I1.kept (t' := s1.toks) k0
  obtain ⟨f0, f1, f2, f3, f4, f5⟩ := I1.fpOk (H' := H1) (b := s1.heap.objs.size) (Nat.le_refl _) (I1.hok.fresh (Nat.le_refl _))
  have hl := p'.isList
  obtain ⟨ol, hol, _⟩ := id hl
  have hne : a ≠ s1.heap.objs.size := Nat.ne_of_lt (Heap.lt_size hol)
  have hn : its.toArray.size ≤ sizeLine := by rw [List.size_toArray, ← rv.length]; exact hz
  refine HT.call_list_rev (s := { s1 with heap := s1.heap.push (revObj a ((its.toArray.size : Int) - 1)) }) (I1.ok.hd hc) ⟨_, Heap.get?_push_size _ rfl, rfl, rfl⟩ (hl.push _) hne hn fun h' tk acc c' hk hS' hi => ?_
  refine ⟨.ref _, upd H1 _ (.lst xs.reverse), I2.turnedNew (t' := tk) (ch := [s1.heap.objs.size]) (fun b o hb e => hk b o (fun z => hb (by rw [z]; exact List.mem_singleton.mpr rfl)) e) (fun b hb => by rw [List.mem_singleton.mp hb]; exact ⟨f0, f1, f2, f3, f4, f5⟩) (Nat.le_refl _) (show ObjOk X.prog X.w _ _ _ (.lst xs.reverse) from ⟨by rw [List.length_reverse]; exact hz, acc.toList, c', vals_rev rv hi, by rw [Array.toArray_toList]; exact hS'⟩), rfl, q _ (I2.hok.fresh (Nat.le_refl _))⟩
instance {K : PySem.W.Frag} {σ : L2.St} {H : Hp} {Q : VK} {te : TE} : Stp (tLRv K te σ H Q) (te σ H fun x H1 => rLRv K x H1 Q) := ⟨id⟩
theorem k_lRv {K : PySem.W.Frag} {H : Hp} {Q : VK} {a : Addr} {xs : List V} (hs : SqL K H a xs) (h : ∀ p H', H p = none → Same H H' → H' p = some (.lst xs.reverse) → Q (.ref p) H') : rLRv K (.ref a) H Q := ⟨a, xs, rfl, hs, fun p np => h p _ np (same_new np) upd_same⟩
end
/-! ### xs + ys of any two lists -/
section
variable {X : Cx}
def rCatS (K : PySem.W.Frag) : R2 := fun x y H Q => ∃ l b xs zs, x = .ref l ∧ y = .ref b ∧ SqL K H l xs ∧ SqL K H b zs ∧ xs.length + zs.length ≤ sizeLine ∧ ∀ p, H p = none → Q (.ref p) (upd H p (.lst (xs ++ zs)))
theorem op_catS : OpR X (binaryOp .Add) (rCatS X.K) := by
  intro pins s σ H x y v u Q I rx ry h
  obtain ⟨l, b, xs, zs, rfl, rfl, hH, hB, hz, q⟩ := h
  cases rx
  cases ry
  obtain ⟨its, r, p1, _⟩ := I.list hH
  obtain ⟨its2, r2, p2, _⟩ := I.list hB
  have l1 := r.length
  have l2 := r2.length
  obtain ⟨⟨cls, dd, data, sl⟩, ho, hc, n, hd⟩ := p1.isList
  obtain ⟨⟨cls2, dd2, data2, sl2⟩, ho2, hc2, n2, hd2⟩ := p2.isList
  simp only at hc hd hc2 hd2
  subst hc hd hc2 hd2
  have e : its.toArray ++ its2.toArray = (its ++ its2).toArray := by simp
  refine concat_meets ⟨_, ho, rfl⟩ ⟨_, ho2, rfl⟩ noFill_list_add seq_list_add PySem.F.slot_list_add PySem.F.entry_list_add (PySem.F.args_list_add_2 _ _) (list_addW l b its.toArray its2.toArray n n2 dd dd2 sl sl2 (by simp only [List.size_toArray]; omega)) ⟨ho, ho2, ?_⟩
  rw [e]
  exact ⟨.ref _, _, I.lnew (t' := s.toks) (r.append r2) (by rw [List.length_append]; exact hz), rfl, q _ I.fresh⟩
theorem k_catS {K : PySem.W.Frag} {H : Hp} {Q : VK} {l b : Addr} {xs zs : List V} (hl : SqL K H l xs) (hb : SqL K H b zs) (hz : xs.length + zs.length ≤ 100000) (h : ∀ p H', H p = none → Same H H' → H' p = some (.lst (xs ++ zs)) → Q (.ref p) H') : rCatS K (.ref l) (.ref b) H Q := ⟨l, b, xs, zs, rfl, rfl, hl, hb, sz hz, fun p np => h p _ np (same_new np) upd_same⟩
end
/-! ### xs.count(k) of a list of tuples and whole numbers -/
def isK (k : Int) : V → Bool
  | .int i => decide (i = k)
  | _ => false
def isKU (k : Int) : Value → Bool
  | .int i _ => decide (i = k)
  | _ => false
theorem isK_rel {k : Int} {v : V} {u : Value} (r : RelV v u) (h : (∃ p, v = .ref p) ∨ ∃ i, v = .int i) : isKU k u = isK k v := by
  rcases h with ⟨p, rfl⟩ | ⟨i, rfl⟩
  · cases r; rfl
  · obtain ⟨t, rfl⟩ := r; rfl
theorem isK_cnt {k : Int} : ∀ {vs : List V} {us : List Value}, Vals vs us → (∀ v ∈ vs, (∃ p, v = .ref p) ∨ ∃ i, v = .int i) → us.countP (isKU k) = vs.countP (isK k)
  | _, _, .nil, _ => rfl
  | v :: vs, u :: us, .cons r rs, h => by
    rw [List.countP_cons, List.countP_cons, isK_rel r (h v List.mem_cons_self), isK_cnt rs fun x hx => h x (List.mem_cons_of_mem _ hx)]
def rCntD (K : PySem.W.Frag) : V → List V → Hp → VK → Prop := fun x xs H Q => ∃ (a : Addr) (ys : List V) (ds : List PyData) (k : Int), x = V.ref a ∧ xs = [.int k] ∧ SqL K H a ys ∧ DpAll K H ys ds ∧ PyData.canLayAll0 ds = true ∧ (∀ d ∈ ds, (∃ es, d = .tuple es) ∨ ∃ i, d = .int i) ∧ Q (.int (ys.countP (isK k) : Nat)) H
theorem lay_mem : ∀ {ds : List PyData}, PyData.canLayAll0 ds = true → ∀ d ∈ ds, d.canLay0 = true
  | [], _, d, h => by cases h
  | a :: r, h, d, hd => by
    have h' : (a.canLay0 && PyData.canLayAll0 r) = true := h
    rw [Bool.and_eq_true] at h'
    rcases List.mem_cons.mp hd with rfl | hd
    · exact h'.1
    · exact lay_mem h'.2 d hd
theorem vals_data {K : PySem.W.Frag} {H : Hp} : ∀ {vs : List V} {us : List Value} {ds : List PyData}, Vals vs us → DpAll K H vs ds → ∀ u ∈ us, ∃ v d, RelV v u ∧ Dp K H v d ∧ d ∈ ds
  | _, _, _, .nil, _, u, hu => by cases hu
  | _, _, _, .cons r rs, .cons h hs, u, hu => by
    rcases List.mem_cons.mp hu with rfl | hu
    · exact ⟨_, _, r, h, List.mem_cons_self⟩
    · obtain ⟨v, d, h1, h2, h3⟩ := vals_data rs hs u hu
      exact ⟨v, d, h1, h2, List.mem_cons_of_mem _ h3⟩
theorem data_kind {K : PySem.W.Frag} {H : Hp} {v : V} {d : PyData} (h : Dp K H v d) (k : (∃ es, d = .tuple es) ∨ ∃ i, d = .int i) : (∃ p, v = .ref p) ∨ ∃ i, v = .int i := by
  rcases k with ⟨es, rfl⟩ | ⟨i, rfl⟩
  · obtain ⟨a, _, e, _⟩ := dp_tup h; exact .inl ⟨a, e⟩
  · exact .inr ⟨i, dp_int h⟩
theorem mt_lcountD {X : Cx} (hu : X.A.units + 64 < cLine) : MtR X "list.count" (rCntD X.K) := by
  intro pins s σ H x xs v us Q I rx rxs h
  obtain ⟨a, ys, ds, k, rfl, rfl, hs, dys, lay, kd, q⟩ := h
  cases rx
  cases rxs with
  | cons ry rt =>
    rename_i uy ut
    cases rt
    obtain ⟨t, rfl⟩ := ry
    obtain ⟨its, rv, ⟨⟨cls, dd, data, sl⟩, n, ho, hc, hdn, hd⟩, hlen⟩ := I.list hs
    simp only at hc hd
    subst hc hd
    refine call_meets PySem.F.slot_list_count ⟨_, ho, rfl⟩ PySem.F.entry_list_count (PySem.F.args_list_count_2 _ _)
      (SeqAt.list_countAt a its.toArray n dd sl (.int k t) (isKU k)) ⟨ho, fun u' hu' => ?_, ?_⟩
    · obtain ⟨w, d, r1, r2, r3⟩ := vals_data rv dys u' (by simpa using hu')
      obtain ⟨as, rd⟩ := Dp.reads I d w u' r2 r1
      have eq := SeqAt.eqAt_reads d (.int k) X.A.in1 s u' (.int k t) as _ rd (Reads.int k t) (lay_mem lay d r3) rfl (by
        have : min d.depth (PyData.int k).depth ≤ 0 := Nat.min_le_right _ _
        have e : X.A.in1.units = X.A.units + 1 := rfl
        rw [e]; omega)
      have e : PyData.eqv d (.int k) = isKU k u' := by
        rw [isK_rel r1 (data_kind r2 (kd d r3))]
        rcases kd d r3 with ⟨es, rfl⟩ | ⟨i, rfl⟩
        · obtain ⟨p, _, rfl, _⟩ := dp_tup r2; rfl
        · cases dp_int r2
          show (i == k) = decide (i = k)
          by_cases c : i = k
          · rw [c, decide_eq_true rfl]; simp
          · rw [decide_eq_false c]; simpa using c
      rw [e] at eq
      exact eq
    · have ec : its.toArray.toList.countP (isKU k) = ys.countP (isK k) := isK_cnt rv fun v hv => by
        obtain ⟨i, hi, e⟩ := List.mem_iff_getElem.mp hv
        obtain ⟨d, hd, dd⟩ := dpa_get dys (show ys[i]? = some v by rw [List.getElem?_eq_getElem hi, e])
        exact data_kind dd (kd d (List.mem_of_getElem? hd))
      refine ⟨.int (ys.countP (isK k) : Nat), H, I.tok _, ⟨s.toks, ?_⟩, q⟩
      show Value.int ((its.toArray.toList.countP (isKU k) : Nat) : Int) s.toks = Value.int ((ys.countP (isK k) : Nat) : Int) s.toks
      rw [ec]
end Cm
namespace HT
open PySem PySem.Spec PyProof.Rows L2
/-! ### a set of whole numbers made of a list, its table in order -/
/-- the set at S holds just the first i numbers -/
def Grown (w : World) (val : Nat → Int) (S : Addr) (i : Nat) (h : Heap) : Prop := SetR w h S (fun k => (firstMet val i).any (· == k)) (firstMet val i).length
section
variable {prog : Program} {w : World} {A : Around} {E : Value → Shared → Prop} {s : Shared}
theorem Grown.next {val : Nat → Int} {S : Addr} {i : Nat} {tk : Tok} {Q : Bool → Shared → Prop} (g : Grown w val S i s.heap) (room : i + 1 < scanBound) (h : ∀ b h', Heap.SameBut S s.heap h' → Grown w val S (i + 1) h' → Q b { s with heap := h' }) :
    wpAny (model prog w) A (setAddHashed S (.int (val i) tk) ((intKind prog w).hash (val i))) Q E s :=
  setR_add_hashed g (Nat.lt_of_le_of_lt (Nat.add_le_add_right (firstMet_length_le val i) 1) room) fun h' sb r => h _ h' sb (by
    unfold Grown
    rw [firstMet_succ, step_length]
    exact r.congr fun k => step_any _ _ k)
theorem grow_all {I : Addr} {fp wr : List Addr} {G : Array GenState → Array GenState → Prop} {n : Nat} {P : Nat → Value → Prop} {St : Nat → Shared → Prop} {R : Result → Shared → Prop} {S : Addr} {val : Nat → Int} {s0 : Shared}
    (W : WalksS prog w A.in1 I fp wr G n P St) (out : S ∉ fp) (hin : ∀ i v, P i v → ∃ t, v = .int (val i) t) (room : n + 1 < scanBound)
    (fin : ∀ z, Moved (S :: wr) G s0 z → Grown w val S n z.heap → R (.ok (.ret .none)) z) :
    ∀ (left i : Nat) (z : Shared), i + left = n → St i z → Moved (S :: wr) G s0 z → Grown w val S i z.heap → codeAny (model prog w) A (.builtin "set.update.loop" ⟨[.ref S, .ref I], []⟩) R z := by
  have away : S ∉ wr := fun y => out (W.sub _ y)
  have wider : ∀ b ∈ wr, b ∈ S :: wr := fun _ y => List.mem_cons_of_mem _ y
  intro left
  induction left with
  | zero =>
    rintro i z e st mv g
    obtain rfl : i = n := e
    refine codeAny_builtin F.entry_set_update_loop ?_
    rw [Around.under_plainId F.plain_set_update_loop _]
    exact wpAny_bind (W.done z _ _ st fun z' m => wpAny_pure (fin z' (Moved.trans W.gtrans mv (m.mono wider)) (g.at fun o y => m.heap S _ away y)))
  | succ left ih =>
    rintro i z e st mv g
    refine codeAny_builtin F.entry_set_update_loop ?_
    rw [Around.under_plainId F.plain_set_update_loop _]
    refine wpAny_bind (W.item i z _ _ (by omega) st fun v z' pv st' m => ?_)
    obtain ⟨t, rfl⟩ := hin i v pv
    have g' : Grown w val S i z'.heap := g.at fun o y => m.heap S _ away y
    refine wpAny_bind (wpAny_holding (m := setAdd S (.int (val i) t)) ?_)
    unfold setAdd
    refine wpAny_holding (wpAny_bind ((intKind prog w).pyHash (k := val i) (intKind_is _ _ _ _) ?_))
    refine Grown.next (s := { z' with toks := z'.toks + 1 }) g' (by omega) fun _ h' sb g2 => ?_
    have keep : ∀ b o, b ≠ S → z'.heap.get? b = some o → h'.get? b = some o := fun b o hb y => by rw [sb.2 b hb]; exact y
    refine wpAny_pure ⟨plainId_quiet F.plain_set_update_loop _, ih (i + 1) _ (by omega) (W.frame _ z' _ _ st' (Nat.le_succ _) fun b hb o y => keep b o (fun c => out (c ▸ hb)) y) ?_ g2⟩
    exact Moved.trans W.gtrans mv ((m.mono wider).then_heap (Nat.le_succ _) fun b o hb y => keep b o (fun c => hb (c ▸ List.mem_cons_self)) y)
/-- the new set, before anything is in it -/
def bareSet (w : World) : Obj := { cls := .type "set", dict := none, data := .set #[] 0 (.fresh 0 0 (!w.params.followText "set-order")) }
theorem new_bare (x : Value) {Q : Value → Shared → Prop} (h : Q (.ref s.heap.objs.size) { s with heap := s.heap.push (bareSet w) }) :
    codeAny (model prog w) A (.call (.builtin "set.__new__") ⟨[.type "set", x], []⟩) (wants Q E) s := by
  refine codeAny_of_tree ?_
  show wpAny _ A.in1 (checkBuiltinCall "set.__new__" ⟨[.type "set", x], []⟩ >>= fun _ => again (.builtin "set.__new__" ⟨[.type "set", x], []⟩)) _ _ s
  refine wpAny_bind (wpAny_of_eq (F.newCall_set_1 x) (wpAny_pure ⟨plainId_quiet F.plain_set_new _, codeAny_builtin F.entry_set_new ?_⟩))
  rw [Around.under_plainId F.plain_set_new _]
  have sub := sub_set_self
  unfold Builtin.«set.__new__» Builtin.Frozenset.newClass
  obtain ⟨hp, g, d, tk, os⟩ := s
  dsimp only
  wp_walk
  exact wpAny_askSetting (wpAny_pure (by dsimp only; simp only [newObj]; exact wpAny_bind (wpAny_alloc (wpAny_pure (wpAny_pure h)))))
/-- set.__init__ of a bare set and a list of whole numbers -/
theorem init_bare {l : Addr} {items : Array Value} {ns : List Int} {R : Result → Shared → Prop} {S : Addr} (hh : A.handled = none) (hS : s.heap.get? S = some (bareSet w)) (hl : s.heap.IsList l items) (hi : IntsAre items.toList ns) (room : items.size + 1 < scanBound)
    (fin : ∀ (h' : Heap) (tk : Nat), Grown w (fun i => ns.getD i 0) S items.size h' → (∀ b o, b ≠ S → s.heap.get? b = some o → h'.get? b = some o) → R (.ok (.ret .none)) { s with heap := h', toks := tk }) :
    wpAny (model prog w) A.in1 (Builtin.«set.__init__» ⟨[.ref S, .ref l], []⟩)
      (fun f s' => match f with | .done f => R (.ok f) s' | .again c => c.quiet = true ∧ codeAny (model prog w) A c R s') (fun e s' => R (.error e) s') s := by
  obtain ⟨⟨cl, dc, dt, so⟩, hol, hcl, nl, hdl⟩ := id hl
  simp only at hcl hdl
  subst hcl hdl
  have noSet := F.sub_list_set
  have noFrozen := F.sub_list_frozenset
  have noDict : (Value.type "list" == Value.type "dict") = false := by decide
  unfold bareSet at hS
  unfold Builtin.«set.__init__» noKeywords Builtin.Frozenset.updateFrom
  generalize eI : pyIter = walkIt
  wp_walk
  subst eI
  refine wpAny_pyIter_list hl ?_
  refine wpAny_bind (wpAny_runValue ?_)
  have lt1 : l < s.heap.objs.size := Heap.lt_size hol
  have ltS : S < s.heap.objs.size := Heap.lt_size hS
  have neS : l ≠ S := fun z => by
    rw [z, hS] at hol
    simp at hol
  have old : ∀ b o, s.heap.get? b = some o → (s.heap.push { cls := .type "list_iterator", data := .fields #[.ref l, .int 0 0] }).get? b = some o := fun b o y => Heap.get?_push_of_some _ y
  refine grow_all (s0 := { s with heap := s.heap.push { cls := .type "list_iterator", data := .fields #[.ref l, .int 0 0] } }) (val := fun i => ns.getD i 0) ((Walks.list (prog := prog) (w := w) (A := A.in1.in1) hh s.heap.objs.size l (Nat.ne_of_lt lt1) items).toS) ?_ (fun i v y => IntsAre.int_at hi i v (by rw [Array.getElem?_toList]; exact y)) room (fun z m g => ?_) items.size 0 _ (by omega) ⟨⟨_, Heap.get?_push_size _ rfl, rfl, rfl⟩, hl.push _⟩ (Moved.refl fun _ => rfl) ?_
  · simp only [List.mem_cons, List.not_mem_nil, or_false, not_or]
    exact ⟨Nat.ne_of_lt ltS, fun z => neS z.symm⟩
  · have ez := Moved.eq_with m
    rw [ez]
    refine wpAny_pure ?_
    show wpAny _ _ (ret Value.none) _ _ _
    refine wpAny_pure (fin z.heap z.toks g fun b o hb y => m.heap b o (fun hm => ?_) (old b o y))
    rcases List.mem_cons.mp hm with hm | hm
    · exact hb hm
    · have e : b = s.heap.objs.size := by simpa using hm
      exact Nat.lt_irrefl _ (e ▸ Heap.lt_size y)
  · have g0 : SetR w (s.heap.push { cls := .type "list_iterator", data := .fields #[.ref l, .int 0 0] }) S (fun _ => false) 0 :=
      ⟨_, #[], 0, _, old _ _ hS, ⟨rfl, rfl, rfl⟩, rfl, (fun e he => by simp at he), (by simp), (fun k => by simp), (by decide), (by rfl), rfl, List.Pairwise.nil, by
        show _ ∨ (!w.params.followText "set-order") = true
        cases w.params.followText "set-order"
        · exact .inr rfl
        · exact .inl rfl⟩
    exact g0
/-- set(xs) of whole numbers, with what sorted needs -/
theorem set_of_ints {l : Addr} {items : Array Value} {ns : List Int} {Q : Value → Shared → Prop} (hh : A.handled = none) (hl : s.heap.IsList l items) (hi : IntsAre items.toList ns) (room : items.size + 1 < scanBound)
    (fin : ∀ (h' : Heap) (tk : Nat), Grown w (fun i => ns.getD i 0) s.heap.objs.size items.size h' → (∀ b o, s.heap.get? b = some o → h'.get? b = some o) → Q (.ref s.heap.objs.size) { s with heap := h', toks := tk }) :
    wpAny (model prog w) A (call (.type "set") [.ref l]) Q E s := by
  have T := F.called_set
  obtain ⟨c, tl, mro⟩ := T.mro
  have made := T.made
  have sub := T.sub
  have known := T.init.lookup
  have nt := T.notType
  have cc := T.canCreate
  have tc := F.typeCall_set_1 (.ref l)
  refine wpAny_call (codeAny_of_tree ?_)
  show wpAny _ _ (callAny (.type "set") _) _ _ _
  refine wpAny_pure ⟨Code.quiet_builtin _ (by decide +kernel), codeAny_builtin F.entry_type_call ?_⟩
  rw [Around.under_plain (weight_type_call_type "set" [.ref l] []) rfl]
  repeat (any_goals (first | assumption | wp_step))
  refine codeAny_mono (new_bare (w := w) (.ref l) (E := E) (Q := fun v z => v = .ref s.heap.objs.size ∧ z = { s with heap := s.heap.push (bareSet w) }) ⟨rfl, rfl⟩) fun r z hr => ?_
  cases r with
  | error e => exact hr
  | ok f =>
    cases f with
    | ret v =>
      obtain ⟨rfl, rfl⟩ := hr
      have hS : (s.heap.push (bareSet w)).get? s.heap.objs.size = some (bareSet w) := Heap.get?_push_size _ rfl
      have bind := T.init.bind (.ref s.heap.objs.size)
      have sub2 : isSubtype (bareSet w).cls (Value.type "set") = pure true := sub
      have known2 := known
      have ty : Shared.TypeIs { s with heap := s.heap.push (bareSet w) } (.ref s.heap.objs.size) "set" := ⟨_, hS, rfl⟩
      repeat (any_goals (first | assumption | wp_step))
      refine codeAny_mono (codeAny_call_builtin (R := wants (fun r z => r = .none ∧ ∃ h' tk, z = { s with heap := h', toks := tk } ∧ Grown w (fun i => ns.getD i 0) s.heap.objs.size items.size h' ∧ ∀ b o, s.heap.get? b = some o → h'.get? b = some o) E) T.init.plain F.entry_set_init (check_set_init_1 ty ?_)) fun r2 z2 h2 => ?_
      · refine init_bare (s := { s with heap := s.heap.push (bareSet w) }) (R := _) (S := s.heap.objs.size) (by simp [hh]) hS (hl.push _) hi room fun h' tk g k => ⟨rfl, h', tk, rfl, g, fun b o y => k b o (Nat.ne_of_lt (Heap.lt_size y)) (Heap.get?_push_of_some _ y)⟩
      · cases r2 with
        | error e => exact h2
        | ok f2 =>
          cases f2 with
          | ret v2 =>
            obtain ⟨rfl, h', tk, rfl, g, k⟩ := h2
            repeat (any_goals (first | assumption | wp_step))
            exact fin h' tk g k
          | _ => exact h2.elim
    | _ => exact hr.elim
end
end HT
namespace Cm
open PySem PySem.Spec PyProof.Rows L2
/-! ### sorted(set(xs)) of whole numbers -/
def rSrtU (K : PySem.W.Frag) (x : V) (H1 : Hp) (Q : VK) : Prop := ∃ (l : Addr) (ns : List Int), x = .ref l ∧ SqL K H1 l (ns.map V.int) ∧ (ns.length ≤ 1000 ∧ unl ns ≤ 60) ∧ ∀ (ms : List Int) (p : Addr), ms.Pairwise (· < ·) → (∀ k, k ∈ ms ↔ k ∈ ns) → H1 p = none → Q (.ref p) (upd H1 p (.lst (ms.map V.int)))
def tSrtU (K : PySem.W.Frag) (ta : TE) : TE := fun σ H Q => ta σ H fun x H1 => rSrtU K x H1 Q
theorem met_mem {ns : List Int} (k : Int) : (PyProof.Rows.firstMet (fun i => ns.getD i 0) ns.length).any (· == k) = true ↔ k ∈ ns := by
  rw [firstMet_any]
  have e : (List.range ns.length).map (fun i => ns.getD i 0) = ns := by
    refine List.ext_getElem? fun i => ?_
    rw [List.getElem?_map]
    by_cases c : i < ns.length
    · rw [List.getElem?_range c, List.getElem?_eq_getElem c]
      simp [List.getD_eq_getElem?_getD, c]
    · rw [List.getElem?_eq_none (by simpa using c), List.getElem?_eq_none (by simpa using c)]; rfl
  rw [e, List.any_eq_true]
  constructor
  · rintro ⟨x, hx, h⟩; rw [← eq_of_beq h]; exact hx
  · intro h; exact ⟨k, h, beq_self_eq_true k⟩
theorem pe_srtU {X : Cx} {a : Expr} {ta : TE} {p p2 q pos : Pos} (cm : X.calm = true) (gl : Gl X "sorted") (ml : X.mg "sorted" = none) (gs : Gl X "set") (ms : X.mg "set" = none) (pa : PE X a ta)
    (se : starEach [a] X.env = (false, eval a X.env) :: starEach [] X.env := by rfl) : PE X (.Call (.Name "sorted" p) [.Call (.Name "set" p2) [a] [] q] [] pos) (tSrtU X.K ta) := by
  constructor
  intro pins s σ H Q I h
  refine Call_ (ld_blt I gl ml boot_sorted (PyProof.Rows.callWith_builtin1 (PyProof.Rows.args_cons ?_ rfl) rfl rfl))
  refine Call_ (ld_blt I gs ms boot_set (PyProof.Rows.callWith_type1 (PyProof.Rows.args_cons (thn (pa.run pins s σ H _ I h) fun v s1 ⟨x, H1, J, rx, qx⟩ => PyProof.Rows.args_nil ?_) se) se rfl))
  obtain ⟨l, ns, rfl, hq, ⟨hl, few⟩, qx⟩ := qx
  cases rx
  obtain ⟨its, rv, pl, hz⟩ := J.list hq
  have size : its.toArray.size = ns.length := by rw [List.size_toArray, ← rv.length, List.length_map]
  unfold unl at few
  refine HT.set_of_ints (J.ok.hd cm) pl.isList (by simpa using RZ.intsAre_vals rv) (by rw [size]; unfold scanBound; omega) fun h' tk g k => PyProof.Rows.args_nil ?_
  rw [size] at g
  have J2 : Inv X pins σ H1 { s1 with heap := h', toks := tk } := J.kept k
  have g2 : SetR X.w ({ s1 with heap := h', toks := tk } : Shared).heap s1.heap.objs.size _ _ := g
  generalize s1.heap.objs.size = sa at g2 ⊢
  generalize ({ s1 with heap := h', toks := tk } : Shared) = s2 at J2 g2 ⊢
  refine sorted_set g2 (J2.ok.hd cm) (by omega) fun s3 p out c ms keep gens os hp hg hin hs hm len => ?_
  have fresh : H1 p = none := J2.hok.fresh hp
  have es : s3 = { s2 with heap := s3.heap, gens := s3.gens, drawn := s3.drawn, toks := s3.toks } := by
    cases s3
    cases s2
    cases os
    rfl
  rw [es]
  have line : (ms.map V.int).length ≤ sizeLine := by
    rw [List.length_map, len]
    exact sz (by omega)
  have J3 : Inv X pins σ (upd H1 p (.lst (ms.map V.int))) { s2 with heap := s3.heap, gens := s3.gens, drawn := s3.drawn, toks := s3.toks } :=
    J2.call (ch := []) (Un.laid keep hp fresh) (J2.hok.laid keep hp ⟨line, out.toList, c, vals_of_ints hin, hg⟩) (by rw [gens]; exact J2.bare) (fun _ z => nomatch z)
  exact ⟨.ref p, _, J3, rfl, qx ms p hs (fun k => (hm k).trans (met_mem k)) fresh⟩
instance {K : PySem.W.Frag} {σ : L2.St} {H : Hp} {Q : VK} {te : TE} : Stp (tSrtU K te σ H Q) (te σ H fun x H1 => rSrtU K x H1 Q) := ⟨id⟩
theorem k_srtU {K : PySem.W.Frag} {H : Hp} {Q : VK} {l : Addr} {ns : List Int} (hs : SqL K H l (ns.map V.int)) (hl : ns.length ≤ 1000) (hu : unl ns ≤ 60) (h : ∀ (ms : List Int) (p : Addr) H', ms.Pairwise (· < ·) → (∀ k, k ∈ ms ↔ k ∈ ns) → H p = none → Same H H' → H' p = some (.lst (ms.map V.int)) → Q (.ref p) H') : rSrtU K (.ref l) H Q := ⟨l, ns, rfl, hs, ⟨hl, hu⟩, fun ms p a b c => h ms p _ a b c (same_new c) upd_same⟩
end Cm
namespace Cm
open PySem PySem.Spec PyProof.Rows L2
/-! ### x (not) in range(..) -/
theorem rg_has (o : Addr) (p q st x : Int) (k1 k2 k3 k4 : Tok) :
    Meets (Builtin.«range.__contains__» ⟨[.ref o, .int x k4], []⟩) (fun _ W z => z.heap.get? o = some { cls := .type "range", data := .fields #[.int p k1, .int q k2, .int st k3], dict := none, slots := #[] } ∧ W (.ok (.ret (.bool (Builtin.Range.rangePlace? p q st x).isSome))) z) :=
  .of_wp fun prog w A W z hz => by
    obtain ⟨hp, gg, dd, kk, ss⟩ := z
    obtain ⟨there, hz⟩ := hz
    wp_walk
    exact ⟨_, rfl, hz⟩
def RgV (vs : List V) (a b c : Int) : Prop := (vs = [.int b] ∧ a = 0 ∧ c = 1) ∨ (vs = [.int a, .int b, .int c] ∧ 0 < c ∧ c < 1073741824)
def inRgB (neg : Bool) (a b c i : Int) : Bool := if neg then !(Builtin.Range.rangePlace? a b c i).isSome else (Builtin.Range.rangePlace? a b c i).isSome
def tInRg (neg : Bool) (ta : TE) (tA : TA) : TE := fun σ H Q => ta σ H fun x H1 => tA σ H1 fun vs H2 => ∃ i a b c, x = .int i ∧ RgV vs a b c ∧ Q (.bl (inRgB neg a b c i)) H2
def rgOp : Bool → CmpOp
  | true => .NotIn
  | false => .In
theorem cmp_rg {X : Cx} {neg : Bool} {pins : List (Addr × Obj)} {s : Shared} {σ : L2.St} {H : Hp} {Q : VK} {o : Addr} {p q st x : Int} {k1 k2 k3 k4 : Tok} (J : Inv X pins σ H s) (ho : s.heap.get? o = some { cls := .type "range", data := .fields #[.int p k1, .int q k2, .int st k3] })
    (h : Q (.bl (inRgB neg p q st x)) H) : wpAny (model X.prog X.w) X.A (compareOp (rgOp neg) (.int x k4) (.ref o)) (EP X pins σ Q) X.xe s := by
  have go : ∀ {R : Bool → Shared → Prop}, R (Builtin.Range.rangePlace? p q st x).isSome s → wpAny (model X.prog X.w) X.A (contains (Value.ref o) (Value.int x k4)) R X.xe s := fun h =>
    wpAny_contains_slot (T := "range") ⟨_, ho, rfl⟩ F.slot_range_contains (call_meets F.slot_range_contains ⟨_, ho, rfl⟩ F.entry_range_contains (F.args_range_contains_2 _ _) (rg_has o p q st x k1 k2 k3 k4) ⟨ho, wpAny_truthy_bool h⟩)
  cases neg with
  | false =>
    show wpAny _ _ (do return Value.bool (← contains (Value.ref o) (Value.int x k4))) _ _ s
    exact wpAny_bind (go (wpAny_pure ⟨.bl _, H, J, rfl, h⟩))
  | true =>
    show wpAny _ _ (do return Value.bool (!(← contains (Value.ref o) (Value.int x k4)))) _ _ s
    exact wpAny_bind (go (wpAny_pure ⟨.bl _, H, J, rfl, h⟩))
theorem pc_inRg {X : Cx} {neg : Bool} {a b : Expr} {rest : List Expr} {ta : TE} {tA : TA} {p pos : Pos} (hg : Gl X "range") (hm : X.mg "range" = none) (pa : PE X a ta) (pA : PA X (b :: rest) tA)
    (he : starEach (b :: rest) X.env = (false, eval b X.env) :: starEach rest X.env) (hpl : (backTo pos (starEach rest X.env)).any (·.1) = false) : PC X (rgOp neg) a (.Call (.Name "range" p) (b :: rest) [] pos) (tInRg neg ta tA) := by
  refine ⟨fun pins s σ H Q I h => ?_⟩
  refine thn (pa.run pins s σ H _ I h) fun v s1 ⟨x, H1, I1, rx, q1⟩ => ?_
  refine Call_ (ld_blt I1 hg hm boot_range (PyProof.Rows.callWith_type1 (thn (pA.run pos pins s1 σ H1 _ I1 q1) fun us s2 ⟨vs, H2, I2, rs, q2⟩ => ?_) he hpl))
  obtain ⟨i, lo, hi, st, rfl, hv, q⟩ := q2
  obtain ⟨k, rfl⟩ := rx
  rcases hv with ⟨rfl, rfl, rfl⟩ | ⟨rfl, c0, c1⟩
  · cases rs with | cons r1 rr =>
    cases rr
    obtain ⟨t1, rfl⟩ := r1
    refine call_range_1 ?_
    exact cmp_rg (I2.kept fun b o e => Heap.get?_push_of_some _ e) (Heap.get?_push_size _ rfl) q
  · cases rs with | cons r1 rr =>
    cases rr with | cons r2 rr =>
    cases rr with | cons r3 rr =>
    cases rr
    obtain ⟨t1, rfl⟩ := r1
    obtain ⟨t2, rfl⟩ := r2
    obtain ⟨t3, rfl⟩ := r3
    refine call_range_3 (by omega) ?_ (.inl (PyProof.noPylong_small (by omega)))
    exact cmp_rg (I2.kept fun b o e => Heap.get?_push_of_some _ e) (Heap.get?_push_size _ rfl) q
def iRgIn (neg : Bool) (x : V) (vs : List V) (H : Hp) (Q : VK) : Prop := ∃ i a b c, x = .int i ∧ RgV vs a b c ∧ Q (.bl (inRgB neg a b c i)) H
instance {σ : L2.St} {H : Hp} {Q : VK} {neg : Bool} {ta : TE} {tA : TA} : Stp (tInRg neg ta tA σ H Q) (ta σ H fun x H1 => tA σ H1 fun vs H2 => iRgIn neg x vs H2 Q) := ⟨id⟩
theorem place_has (a b c i : Int) (hc : 0 < c) : (Builtin.Range.rangePlace? a b c i).isSome = decide (a ≤ i ∧ i < b ∧ (i - a) % c = 0) := by
  unfold Builtin.Range.rangePlace?
  rw [if_pos hc]
  by_cases h1 : a ≤ i <;> by_cases h2 : i < b <;> by_cases h3 : (i - a) % c = 0 <;> simp [h1, h2, h3]
theorem k_inRg1 {neg : Bool} {H : Hp} {Q : VK} {i n : Int} (h : Q (.bl (if neg then !decide (0 ≤ i ∧ i < n) else decide (0 ≤ i ∧ i < n))) H) : iRgIn neg (.int i) [.int n] H Q := ⟨i, 0, n, 1, rfl, .inl ⟨rfl, rfl, rfl⟩, by
  have e : decide (0 ≤ i ∧ i < n ∧ (i - 0) % 1 = 0) = decide (0 ≤ i ∧ i < n) := by rw [decide_eq_decide]; constructor <;> omega
  unfold inRgB
  rw [place_has 0 n 1 i (by decide), e]
  exact h⟩
theorem k_inRg3 {neg : Bool} {H : Hp} {Q : VK} {i a b c : Int} (hc : 0 < c) (hc2 : c < 1073741824) (h : Q (.bl (if neg then !decide (a ≤ i ∧ i < b ∧ (i - a) % c = 0) else decide (a ≤ i ∧ i < b ∧ (i - a) % c = 0))) H) : iRgIn neg (.int i) [.int a, .int b, .int c] H Q := ⟨i, a, b, c, rfl, .inr ⟨rfl, hc, hc2⟩, by
  unfold inRgB
  rw [place_has a b c i hc]
  exact h⟩
end Cm

namespace Cm
open PySem PySem.Spec PyProof.Rows L2
/-! ### sorted(xs), xs a list of data -/
def byD (z : V × PyData) : PyData := z.2
def srtD (xs : List V) (ds : List PyData) : List (V × PyData) := (xs.zip ds).mergeSort (PySem.W.dataLe false byD)
def rSortD (K : PySem.W.Frag) : List V → Hp → VK → Prop := fun vs H Q => ∃ (a : Addr) (xs : List V) (ds : List PyData), vs = [V.ref a] ∧ SqL K H a xs ∧ DpAll K H xs ds ∧ PySem.W.AllAlike ds ∧ PySem.W.Sortable ds ∧ (∀ d ∈ ds, d.depth ≤ 62) ∧
  ∀ p, H p = none → Q (.ref p) (upd H p (.lst ((srtD xs ds).map Prod.fst)))
section
variable {X : Cx} {pins : List (Addr × Obj)} {σ : L2.St} {H : Hp} {s : Shared}
theorem zip_snd : ∀ {xs : List V} {ds : List PyData}, DpAll X.K H xs ds → (xs.zip ds).map byD = ds
  | _, _, .nil => rfl
  | _, _, .cons _ t => by rw [List.zip_cons_cons, List.map_cons, zip_snd t]; rfl
theorem zip_is (I : Inv X pins σ H s) : ∀ {xs : List V} {ds : List PyData} {us : List Value}, DpAll X.K H xs ds → Vals xs us → PySem.W.EachIs (fun v (z : V × PyData) => RelV z.1 v) us (xs.zip ds) ∧ PySem.W.EachIs (fun v (z : V × PyData) => ∃ as, Reads s.heap v (byD z) as) us (xs.zip ds)
  | _, _, _, .nil, .nil => ⟨.nil, .nil⟩
  | _, _, _, .cons h t, .cons r rt => by
    obtain ⟨h1, h2⟩ := zip_is I t rt
    exact ⟨.cons r h1, .cons (Dp.reads I _ _ _ h r) h2⟩
theorem is_vals : ∀ {us : List Value} {zs : List (V × PyData)}, PySem.W.EachIs (fun v (z : V × PyData) => RelV z.1 v) us zs → Vals (zs.map Prod.fst) us
  | _, _, .nil => .nil
  | _, _, .cons r t => .cons r (is_vals t)
theorem cr_sortD (hu : X.A.units + 64 < cLine) : CallR X (.builtin "sorted") (rSortD X.K) := by
  intro pins s σ H vs us Q I r h
  obtain ⟨a, xs, ds, rfl, hs, hd, al, so, dep, q⟩ := h
  obtain ⟨its, rv, hl, hz⟩ := I.list hs
  rw [Vals.ref1 r]
  obtain ⟨e, er⟩ := zip_is I hd rv
  have zs := zip_snd hd
  have lz : (xs.zip ds).length = xs.length := by
    rw [List.length_zip, dpa_len hd, Nat.min_self]
  refine PySem.W.sorted_data hl.isList e er (by rw [zs]; exact al) (by rw [zs]; exact so) (by rw [lz]; exact hz) (fun z hz' => ?_) (fun out lo eo => ?_)
  · have : byD z ∈ ds := by rw [← zs]; exact List.mem_map_of_mem hz'
    have := dep _ this
    omega
  · obtain ⟨ep, at1⟩ := PyProof.Rows.sortedAll_at s.heap its out.toArray
    refine ⟨.ref _, upd H (s.heap.objs.size + 1) (.lst ((srtD xs ds).map Prod.fst)), I.laid (t' := s.toks) (fun _ _ => PyProof.Rows.sortedAll_old) (Nat.le_succ _) ⟨?_, out, ep, is_vals eo, at1⟩, rfl, q _ (I.hok.fresh (Nat.le_succ _))⟩
    rw [List.length_map, srtD, List.length_mergeSort, lz]
    exact hz
end
end Cm
namespace HT
open PySem PySem.Spec PyProof.Rows L2
/-! ### x in d.values() -/
theorem ent_ci : entryFor table "proto.contains_iter" = some Builtin.«proto.contains_iter» := entryFor_of_tree (by kernel_rfl)
theorem pl_ci : plainId "proto.contains_iter" = true := by decide +kernel
theorem lk_vals : typeLookup (.type "dict_values") "__contains__" = pure none := by rfl
section
variable {prog : Program} {w : World} {A : Around} {E : Value → Shared → Prop} {s : Shared}
theorem seek_all {I : Addr} {fp wr : List Addr} {n : Nat} {P : Nat → Value → Prop} {St : Nat → Heap → Prop} {R : Result → Shared → Prop} {val : Nat → Int} {x : Int} {tk : Tok}
    (W : Walks prog w A.in1 I fp wr n P St) (hin : ∀ i v, P i v → ∃ t, v = .int (val i) t) :
    ∀ (left i : Nat) (z : Shared), i + left = n → St i z.heap → (∀ b h' k, (b = true ↔ ∃ j, i ≤ j ∧ j < n ∧ val j = x) → (∀ c o, c ∉ wr → z.heap.get? c = some o → h'.get? c = some o) → R (.ok (.ret (.bool b))) { z with heap := h', toks := k }) →
      codeAny (model prog w) A (.builtin "proto.contains_iter" ⟨[.ref I, .int x tk], []⟩) R z := by
  intro left
  induction left with
  | zero =>
    intro i z e st fin
    obtain rfl : i = n := e
    refine codeAny_builtin ent_ci ?_
    rw [Around.under_plainId pl_ci _]
    refine wpAny_bind (W.done z _ _ st fun h' k kp => ?_)
    refine wpAny_bind (wpAny_rule (wpAny_pure ?_))
    exact fin false h' k ⟨(fun y => by cases y), fun ⟨j, h1, h2, _⟩ => by omega⟩ kp
  | succ left ih =>
    intro i z e st fin
    refine codeAny_builtin ent_ci ?_
    rw [Around.under_plainId pl_ci _]
    refine wpAny_bind (W.item i z _ _ (by omega) st fun v h' k pv st' kp => ?_)
    obtain ⟨t, rfl⟩ := hin i v pv
    refine wpAny_bind (wpAny_eqBool_int ?_)
    by_cases c : val i = x
    · rw [show (val i == x) = true by rw [c]; simp, if_pos rfl]
      refine wpAny_bind (wpAny_rule (wpAny_pure ?_))
      exact fin true h' k ⟨fun _ => ⟨i, Nat.le_refl _, by omega, c⟩, fun _ => rfl⟩ kp
    · rw [show (val i == x) = false by simpa using c, if_neg (by decide)]
      refine wpAny_pure ⟨plainId_quiet pl_ci _, ih (i + 1) { z with heap := h', toks := k } (by omega) st' fun b h2 k2 hb kp2 => ?_⟩
      refine fin b h2 k2 (hb.trans ⟨fun ⟨j, h1, h2, h3⟩ => ⟨j, by omega, h2, h3⟩, fun ⟨j, h1, h2, h3⟩ => ⟨j, ?_, h2, h3⟩⟩) fun c o hc y => kp2 c o hc (kp c o hc y)
      by_cases e : j = i
      · exact absurd (e ▸ h3) c
      · omega
theorem in_view {K : Type} [DecidableEq K] {knd : PySem.KeyKind prog w K} {v d : Addr} {kvs : List (K × Value)} {ep : Nat} {is : List Int} {x : Int} {tk : Tok} {Q : Bool → Shared → Prop} (hh : A.handled = none) (hv : s.heap.IsValuesView v d) (hm : s.heap.DictAt knd d kvs ep)
    (vals : ∀ (i : Nat) (u : Value), (∃ k, kvs[i]? = some (k, u)) → ∃ t, u = Value.int (is.getD i 0) t) (ln : kvs.length = is.length)
    (fin : ∀ b h' k, (b = true ↔ x ∈ is) → (∀ c o, s.heap.get? c = some o → h'.get? c = some o) → Q b { s with heap := h', toks := k }) : wpAny (model prog w) A (contains (.ref v) (.int x tk)) Q E s := by
  have ty : s.TypeIs (.ref v) "dict_values" := hv.typeIs
  unfold contains
  refine wpAny_holding ?_
  rw [stdlibNamesSay?_of_typeIs ty]
  refine wpAny_bind (wpAny_specialOf ty lk_vals ?_)
  rw [if_neg (by decide)]
  refine wpAny_bind (wpAny_callSpecialUnlessNone?_none ty lk_vals ?_)
  refine wpAny_bind (wpAny_rule ?_)
  refine wpAny_bind (wpAny_tryCatch (wpAny_pyIter_values hv hm ?_))
  have dlt : d < s.heap.objs.size := by
    obtain ⟨o, es, ho, _⟩ := hm
    exact Heap.lt_size ho
  have up : ∀ b u, s.heap.get? b = some u → (s.heap.push { cls := .type "dict_valueiterator", data := .fields #[.ref d, .int 0 0, .int kvs.length 0, .int ep 0] }).get? b = some u := fun b u e => Heap.get?_push_of_some _ e
  refine wpAny_bind (wpAny_runValue (seek_all (val := fun i => is.getD i 0) (Walks.dictValues (knd := knd) (A := A.in1) hh s.heap.objs.size d (Nat.ne_of_lt dlt) kvs ep) vals kvs.length 0 _ (by omega) ⟨⟨_, Heap.get?_push_size _ rfl, rfl, rfl⟩, hm.keep up⟩ (fun b h' k hb kp => ?_)))
  refine wpAny_pure (fin b h' k (hb.trans ?_) fun c o y => kp c o (fun hc => ?_) (up c o y))
  · rw [List.mem_iff_getElem]
    constructor
    · rintro ⟨j, _, h2, h3⟩
      have hj : j < is.length := by omega
      refine ⟨j, hj, ?_⟩
      rw [← h3, List.getD_eq_getElem?_getD, List.getElem?_eq_getElem hj]; rfl
    · rintro ⟨j, hj, e⟩
      refine ⟨j, Nat.zero_le _, by omega, ?_⟩
      show is.getD j 0 = x
      rw [← e, List.getD_eq_getElem?_getD, List.getElem?_eq_getElem hj]; rfl
  · have e1 : c = s.heap.objs.size := List.mem_singleton.mp hc
    exact Nat.lt_irrefl _ (e1 ▸ Heap.lt_size y)
end
end HT
namespace Cm
open PySem PySem.Spec PyProof.Rows L2
def iInV (neg : Bool) (x y : V) (H : Hp) (Q : VK) : Prop := ∃ (i : Int) (a : Addr) (kvs : List (Key × V)) (is : List Int), x = .int i ∧ y = .ref a ∧ H a = some (.dK kvs) ∧ kvs.map (·.2) = is.map V.int ∧ Q (.bl (if neg then !decide (i ∈ is) else decide (i ∈ is))) H
def tInV (neg : Bool) (ta td : TE) : TE := fun σ H Q => ta σ H fun x H1 => td σ H1 fun y H2 => iInV neg x y H2 Q
instance {σ : L2.St} {H : Hp} {Q : VK} {neg : Bool} {ta td : TE} : Stp (tInV neg ta td σ H Q) (ta σ H fun x H1 => td σ H1 fun y H2 => iInV neg x y H2 Q) := ⟨id⟩
theorem pc_inVals {X : Cx} {neg : Bool} {a o : Expr} {apos mpos : Pos} {ta td : TE} (hc : X.calm = true) (pa : PE X a ta) (hd : PE X o td) (hbase : attributeBase o "values" X.env (eval o X.env) = eval o X.env := by rfl) (hline : (apos.endLine == mpos.line) = true := by rfl) :
    PC X (rgOp neg) a (.Call (.Attribute o "values" apos) [] [] mpos) (tInV neg ta td) := by
  refine ⟨fun pins s σ H Q I h => ?_⟩
  refine thn (pa.run pins s σ H _ I h) fun w0 s0 ⟨x, H0, I0, r0, q0⟩ => ?_
  refine wpAny_Call_method0_late hbase hline (thn (hd.run pins s0 σ H0 _ I0 q0) ?_)
  rintro v s1 ⟨y, H1, I1, r1, i, d, kvs, is, rfl, rfl, ha, hv, q⟩
  obtain rfl : v = Value.ref d := r1
  obtain ⟨tk, rfl⟩ := r0
  obtain ⟨_, hsys, vs, rel, dof⟩ := dk_of I1.hok ha
  obtain ⟨ep, dat⟩ := dof.dictAt
  obtain ⟨ob, es, ho, ex, hdat, hko, hpr, hnd⟩ := id dat
  have lv : vs.length = is.length := by
    have e1 : kvs.length = is.length := by simpa using congrArg List.length hv
    rw [← e1]; exact (KV.length rel).symm
  have vals : ∀ (i : Nat) (v : Value), (∃ k, vs[i]? = some (k, v)) → ∃ t, v = Value.int (is.getD i 0) t := by
    rintro j v ⟨k, hk⟩
    obtain ⟨z, h1, h2⟩ := KV.at' rel hk
    have e1 : (is.map V.int)[j]? = some z := by rw [← hv, List.getElem?_map, h1] <;> rfl
    rw [List.getElem?_map] at e1
    obtain ⟨m, hm, rfl⟩ := Option.map_eq_some_iff.mp e1
    obtain ⟨t, e3⟩ := h2
    exact ⟨t, by rw [e3, List.getD_eq_getElem?_getD, hm] <;> rfl⟩
  refine ⟨"dict", "dict.values", F.plainAttrs_dict, F.slot_dict_values, F.type_dict_values, ⟨ob, ho, ex.1⟩, fun b e => by cases e; exact ⟨ob, ho, ex.2.1⟩, Calls.callWith_builtin rfl (PySem.evalArgs_none ?_)⟩
  refine call_meetsIn F.slot_dict_values ⟨ob, ho, ex.1⟩ F.entry_dict_values (F.args_dict_values_1 _) (meets_dict_values (mixKind X.prog X.w) d hsys) ⟨⟨vs, dof⟩, ?_⟩
  have up : ∀ b u, s1.heap.get? b = some u → (s1.heap.push { cls := .type "dict_values", data := .fields #[.ref d] }).get? b = some u := fun b u e => Heap.get?_push_of_some _ e
  have go : ∀ {R : Bool → Shared → Prop}, (∀ b h' k, (b = true ↔ i ∈ is) → (∀ c o, (s1.heap.push { cls := .type "dict_values", data := .fields #[.ref d] }).get? c = some o → h'.get? c = some o) → R b { s1 with heap := h', toks := k }) → wpAny (model X.prog X.w) X.A (contains (.ref s1.heap.objs.size) (.int i tk)) R X.xe { s1 with heap := s1.heap.push { cls := .type "dict_values", data := .fields #[.ref d] } } := fun fin =>
    HT.in_view (I.ok.hd hc) (v := s1.heap.objs.size) (d := d) ⟨_, Heap.get?_push_size _ rfl, rfl, rfl⟩ (dat.keep up) vals lv fin
  have keep : ∀ {h' : Heap} {k : Nat}, (∀ c o, (s1.heap.push { cls := .type "dict_values", data := .fields #[.ref d] }).get? c = some o → h'.get? c = some o) → Inv X pins σ H1 { s1 with heap := h', toks := k } := fun {h' k} kp => I1.kept (t' := k) fun b u e => kp b u (up b u e)
  cases neg with
  | false =>
    show wpAny _ _ (do return Value.bool (← contains (Value.ref s1.heap.objs.size) (Value.int i tk))) _ _ _
    refine wpAny_bind (go fun b h' k hb kp => wpAny_pure ⟨.bl b, H1, keep kp, rfl, ?_⟩)
    have e : b = decide (i ∈ is) := by rw [Bool.eq_iff_iff, hb, decide_eq_true_eq]
    rw [e]; exact q
  | true =>
    show wpAny _ _ (do return Value.bool (!(← contains (Value.ref s1.heap.objs.size) (Value.int i tk)))) _ _ _
    refine wpAny_bind (go fun b h' k hb kp => wpAny_pure ⟨.bl !b, H1, keep kp, rfl, ?_⟩)
    have e : b = decide (i ∈ is) := by rw [Bool.eq_iff_iff, hb, decide_eq_true_eq]
    rw [e]; exact q
theorem k_inV {neg : Bool} {H : Hp} {Q : VK} {i : Int} {a : Addr} {kvs : List (Key × V)} {is : List Int} (e : H a = some (.dK kvs)) (hv : kvs.map (·.2) = is.map V.int) (h : Q (.bl (if neg then !decide (i ∈ is) else decide (i ∈ is))) H) : iInV neg (.int i) (.ref a) H Q := ⟨i, a, kvs, is, rfl, rfl, e, hv, h⟩
theorem k_nInV {H : Hp} {Q : VK} {i : Int} {a : Addr} {kvs : List (Key × V)} {is : List Int} (e : H a = some (.dK kvs)) (hv : kvs.map (·.2) = is.map V.int) (h : Q (.bl (!decide (i ∈ is))) H) : iInV true (.int i) (.ref a) H Q := k_inV e hv h
end Cm
namespace HT
open PySem PySem.Spec PyProof.Rows L2
/-! ### sum(lists, start) -/
def lsO (vs : List Value) (e : Nat) : Obj := { cls := .type "list", data := .seq vs.toArray e }
/-- the first i rows behind a start -/
def rowsTo (start : List Value) (row : Nat → List Value) : Nat → List Value
  | 0 => start
  | i + 1 => rowsTo start row i ++ row i
theorem rowsTo_len {start : List Value} {row : Nat → List Value} : ∀ {i n : Nat}, i ≤ n → (rowsTo start row i).length ≤ (rowsTo start row n).length
  | i, 0, h => by
    obtain rfl : i = 0 := by omega
    exact Nat.le_refl _
  | i, n + 1, h => by
    by_cases c : i = n + 1
    · rw [c]; exact Nat.le_refl _
    · have := rowsTo_len (start := start) (row := row) (show i ≤ n by omega)
      rw [rowsTo, List.length_append]
      omega
theorem a2_sum (a b : Value) : argsOk "sum" ⟨[a, b], []⟩ := by unfold argsOk; kernel_rfl
section
variable {prog : Program} {w : World} {A : Around} {E : Value → Shared → Prop} {s : Shared}
theorem cat_all {I : Addr} {fp wr : List Addr} {n : Nat} {P : Nat → Value → Prop} {St : Nat → Heap → Prop} {R : Result → Shared → Prop} {cs : Nat → Addr} {start : List Value} {row : Nat → List Value} {S : Addr} {h0 : Heap}
    (W : Walks prog w A.in1 I fp wr n P St) (hin : ∀ i v, P i v → v = .ref (cs i)) (hS : S ∉ fp) (hw : ∀ i h, St i h → ∀ b ∈ wr, b < h.objs.size) (rows : ∀ i, i < n → cs i ∉ wr ∧ cs i ≠ S ∧ ∃ e, h0.get? (cs i) = some (lsO (row i) e)) (room : (rowsTo start row n).length ≤ sizeLine) :
    ∀ (left i : Nat) (z : Shared) (T : Addr) (c e : Nat), i + left = n → St i z.heap → (∀ b o, b ∉ wr → b ≠ S → h0.get? b = some o → z.heap.get? b = some o) → z.heap.get? S = some { cls := .type "list", dict := none, data := .seq #[.ref T] c, slots := #[] } → T ∉ wr → T ≠ S → z.heap.get? T = some (lsO (rowsTo start row i) e) →
      (∀ T' h' k e', (left = 0 → T' = T) → (0 < left → ∀ q ∈ wr, q < T') → (∀ b o, b ∉ wr → b ≠ S → z.heap.get? b = some o → h'.get? b = some o) → h'.get? T' = some (lsO (rowsTo start row n) e') → R (.ok (.ret (.ref T'))) { z with heap := h', toks := k }) →
      codeAny (model prog w) A (.builtin "sum.loop" ⟨[.ref I, .ref S, rawInt 2, rawInt 0], []⟩) R z := by
  have hSw : S ∉ wr := fun h => hS (W.sub _ h)
  intro left
  induction left with
  | zero =>
    intro i z T c e hi st kp0 hz Tw TS eT fin
    obtain rfl : i = n := hi
    refine codeAny_builtin F.entry_sum_loop ?_
    rw [Around.under_plainId F.plain_sum_loop _]
    show wpAny _ A.in1 (seqItems? (.ref S) >>= _) _ _ z
    refine wpAny_bind (wpAny_seqItems hz rfl ?_)
    show wpAny _ A.in1 (tryCatch (pyNext (.ref I)) _ >>= _) _ _ z
    refine wpAny_bind (wpAny_tryCatch (W.done z _ _ st fun h' k kp => ?_))
    exact wpAny_pure (fin T h' k e (fun _ => rfl) (fun y => by omega) (fun b o hb _ y => kp b o hb y) (kp T _ Tw eT))
  | succ left ih =>
    intro i z T c e hi st kp0 hz Tw TS eT fin
    obtain ⟨cw, cS, e1, ec⟩ := rows i (by omega)
    refine codeAny_builtin F.entry_sum_loop ?_
    rw [Around.under_plainId F.plain_sum_loop _]
    show wpAny _ A.in1 (seqItems? (.ref S) >>= _) _ _ z
    refine wpAny_bind (wpAny_seqItems hz rfl ?_)
    show wpAny _ A.in1 (tryCatch (pyNext (.ref I)) _ >>= _) _ _ z
    refine wpAny_bind (wpAny_tryCatch (W.item i z _ _ (by omega) st fun v h' k pv st' kp => ?_))
    obtain rfl := hin i v pv
    have eS := kp S _ hSw hz
    have eT' := kp T _ Tw eT
    have ecz := kp (cs i) _ cw (kp0 (cs i) _ cw cS ec)
    have big : (rowsTo start row i).length + (row i).length ≤ sizeLine := by
      have := rowsTo_len (start := start) (row := row) (show i + 1 ≤ n by omega)
      rw [rowsTo, List.length_append] at this
      omega
    show wpAny _ A.in1 ((holding [Value.ref (cs i)] (binaryOp .Add (.ref T) (.ref (cs i)))).attempt >>= _) _ _ _
    refine wpAny_bind (wpAny_attempt (wpAny_holding (PySem.P.add_list eT' ecz ?_ (by rw [List.size_toArray, List.size_toArray]; exact big))))
    have ep : (rowsTo start row i).toArray ++ (row i).toArray = (rowsTo start row (i + 1)).toArray := by simp [rowsTo]
    rw [ep]
    have nS : S ≠ h'.objs.size := Nat.ne_of_lt (Heap.lt_size eS)
    have up : ∀ b o, h'.get? b = some o → (h'.push (lsO (rowsTo start row (i + 1)) 0)).get? b = some o := fun b o y => Heap.get?_push_of_some _ y
    have ePS := up S _ eS
    show wpAny _ A.in1 (updateSeq S (fun _ => #[.ref h'.objs.size]) >>= _) _ _ _
    refine wpAny_bind (wpAny_updateSeq ePS rfl ?_)
    have eS2 := Heap.get?_update_self (Obj.mapSeq fun _ => #[Value.ref h'.objs.size]) ePS rfl
    refine wpAny_bind (wpAny_letGo ?_)
    have keep2 : ∀ b o, b ≠ S → h'.get? b = some o → (((h'.push (lsO (rowsTo start row (i + 1)) 0)).update S (Obj.mapSeq fun _ => #[Value.ref h'.objs.size])).update S (Obj.mapSeq fun _ => #[Value.ref h'.objs.size])).get? b = some o := fun b o hb y =>
      (Heap.get?_update_other _ _ (Ne.symm hb)).trans ((Heap.get?_update_other _ _ (Ne.symm hb)).trans (up b o y))
    have eT2 : (((h'.push (lsO (rowsTo start row (i + 1)) 0)).update S (Obj.mapSeq fun _ => #[Value.ref h'.objs.size])).update S (Obj.mapSeq fun _ => #[Value.ref h'.objs.size])).get? h'.objs.size = some (lsO (rowsTo start row (i + 1)) 0) :=
      (Heap.get?_update_other _ _ nS).trans ((Heap.get?_update_other _ _ nS).trans (Heap.get?_push_size _ rfl))
    have big2 : ∀ b, b < h'.objs.size → b < (((h'.push (lsO (rowsTo start row (i + 1)) 0)).update S (Obj.mapSeq fun _ => #[Value.ref h'.objs.size])).update S (Obj.mapSeq fun _ => #[Value.ref h'.objs.size])).objs.size := fun b hb => by
      rw [Heap.size_update, Heap.size_update, Heap.size_push]
      omega
    refine wpAny_bind (wpAny_updateSeq eS2 rfl (wpAny_pure ⟨plainId_quiet F.plain_sum_loop _, ih (i + 1) _ h'.objs.size _ 0 (by omega) (W.frame _ _ _ st' fun b hb o y => keep2 b o (fun c => hS (c ▸ hb)) y) (fun b o hb hb2 y => keep2 b o hb2 (kp b o hb (kp0 b o hb hb2 y))) (Heap.get?_update_self _ eS2 rfl) ?_ (Ne.symm nS) eT2 fun T' h2 k2 e' h3 h4 h5 h6 => ?_⟩))
    · exact fun y => Nat.lt_irrefl _ (hw _ _ st' _ y)
    · refine fin T' h2 k2 e' (fun y => by omega) (fun _ q hq => ?_) (fun b o hb hb2 y => h5 b o hb hb2 (keep2 b o hb2 (kp b o hb y))) h6
      by_cases c0 : left = 0
      · rw [h3 c0]
        exact hw _ _ st' q hq
      · exact h4 (by omega) q hq
theorem nl_str : isSubtype (.type "list") (.type "str") = pure false := by rw [isSubtype_type]; kernel_rfl
theorem nl_bytes : isSubtype (.type "list") (.type "bytes") = pure false := by rw [isSubtype_type]; kernel_rfl
theorem nl_barr : isSubtype (.type "list") (.type "bytearray") = pure false := by rw [isSubtype_type]; kernel_rfl
theorem call_sumL {l b : Addr} {items : Array Value} {cs : Nat → Addr} {start : List Value} {row : Nat → List Value} {Q : Value → Shared → Prop} (hh : A.handled = none) (hl : s.heap.IsList l items) (hb : ∃ e, s.heap.get? b = some (lsO start e)) (hin : ∀ (i : Nat) v, items[i]? = some v → v = .ref (cs i)) (rows : ∀ i, i < items.size → ∃ e, s.heap.get? (cs i) = some (lsO (row i) e)) (room : (rowsTo start row items.size).length ≤ sizeLine)
    (fin : ∀ T h' k e', (items.size = 0 → T = b) → (0 < items.size → s.heap.objs.size ≤ T) → (∀ c o, s.heap.get? c = some o → h'.get? c = some o) → h'.get? T = some (lsO (rowsTo start row items.size) e') → Q (.ref T) { s with heap := h', toks := k }) :
    wpAny (model prog w) A (call (.builtin "sum") [.ref l, .ref b]) Q E s := by
  obtain ⟨eb, hb⟩ := hb
  refine call_function_tree F.kind_sum F.plain_sum F.entry_sum (a2_sum _ _) ?_
  unfold Builtin.«sum»
  simp only [List.length_cons, List.length_nil]
  rw [if_neg (by decide)]
  refine wpAny_bind (wpAny_of_eq (show Builtin.Builtins.bindParams "sum" ["start"] 0 ⟨[.ref b], []⟩ = pure [some (.ref b)] from rfl) ?_)
  refine wpAny_bind (wpAny_pyIter_list hl ?_)
  have lt : ∀ {c o}, s.heap.get? c = some o → c < s.heap.objs.size := fun e => Heap.lt_size e
  have up : ∀ c o, s.heap.get? c = some o → (s.heap.push { cls := .type "list_iterator", data := .fields #[.ref l, .int 0 0] }).get? c = some o := fun c o y => Heap.get?_push_of_some _ y
  have ty : ({ s with heap := s.heap.push { cls := .type "list_iterator", data := .fields #[.ref l, .int 0 0] } } : Shared).TypeIs (.ref b) "list" := ⟨_, up b _ hb, rfl⟩
  refine wpAny_bind (wpAny_pure ?_)
  simp only [List.forIn_cons, List.forIn_nil]
  refine wpAny_bind (wpAny_bind (wpAny_bind (wpAny_isInstance (T := "list") (b := false) ty nl_str ?_)))
  simp only [Bool.false_eq_true, if_false]
  refine wpAny_pure (wpAny_bind (wpAny_bind (wpAny_isInstance (T := "list") (b := false) ty nl_bytes ?_)))
  simp only [Bool.false_eq_true, if_false]
  refine wpAny_pure (wpAny_bind (wpAny_bind (wpAny_isInstance (T := "list") (b := false) ty nl_barr ?_)))
  simp only [Bool.false_eq_true, if_false]
  refine wpAny_pure (wpAny_pure ?_)
  refine wpAny_bind (wpAny_newObj_type ?_)
  obtain ⟨ol, hol, _⟩ := id hl
  have ltl := lt hol
  have sz : (s.heap.push { cls := .type "list_iterator", data := .fields #[.ref l, .int 0 0] }).objs.size = s.heap.objs.size + 1 := Heap.size_push _ _
  refine wpAny_pure ⟨plainId_quiet F.plain_sum_loop _, ?_⟩
  have up2 : ∀ c o, s.heap.get? c = some o → ((s.heap.push { cls := .type "list_iterator", data := .fields #[.ref l, .int 0 0] }).push { cls := .type "list", data := .seq #[.ref b] }).get? c = some o := fun c o y => Heap.get?_push_of_some _ (up c o y)
  have ne0 : ∀ {c : Addr}, c < s.heap.objs.size → c ∉ [s.heap.objs.size] := fun h hc => Nat.ne_of_lt h (List.mem_singleton.mp hc)
  have ne1 : ∀ {c : Addr}, c < s.heap.objs.size → c ≠ s.heap.objs.size + 1 := fun h => Nat.ne_of_lt (Nat.lt_succ_of_lt h)
  refine cat_all (h0 := s.heap) (start := start) (row := row) (Walks.list (prog := prog) (w := w) (A := A.in1) hh s.heap.objs.size l (Nat.ne_of_lt ltl) items) hin ?_ ?_ (fun i hi => ?_) room items.size 0 _ b 0 eb (by omega) ⟨⟨_, Heap.get?_push_of_some _ (Heap.get?_push_size _ rfl), rfl, rfl⟩, (hl.push _).push _⟩ (fun c o _ _ y => up2 c o y) (Heap.get?_push_size _ rfl) ?_ ?_ (up2 b _ hb) (fun T h' k e' h3 h4 h5 h6 => ?_)
  · simp only [List.mem_cons, List.not_mem_nil, or_false, not_or]
    constructor
    · show (s.heap.push _).objs.size ≠ _
      rw [sz]
      exact Nat.succ_ne_self _
    · show (s.heap.push _).objs.size ≠ _
      rw [sz]
      exact (ne1 ltl).symm
  · intro i h st c hc
    rw [show c = s.heap.objs.size from List.mem_singleton.mp hc]
    obtain ⟨⟨o, ho, _⟩, _⟩ := st
    exact Heap.lt_size ho
  · obtain ⟨e, he⟩ := rows i hi
    refine ⟨ne0 (lt he), ?_, e, he⟩
    show cs i ≠ (s.heap.push _).objs.size
    rw [sz]
    exact ne1 (lt he)
  · exact ne0 (lt hb)
  · show b ≠ (s.heap.push _).objs.size
    rw [sz]
    exact ne1 (lt hb)
  · refine fin T h' k e' h3 (fun hp => Nat.le_of_lt (h4 hp _ (List.mem_singleton.mpr rfl))) (fun c o y => ?_) h6
    · refine h5 c o (ne0 (lt y)) ?_ (up2 c o y)
      show c ≠ (s.heap.push _).objs.size
      rw [sz]
      exact ne1 (lt y)
end
end HT
namespace Cm
open PySem PySem.Spec PyProof.Rows L2
def rSumL (K : PySem.W.Frag) : List V → Hp → VK → Prop := fun vs H Q => ∃ (a b : Addr) (cs : List Addr) (rows : List (List V)) (st : List V), vs = [V.ref a, V.ref b] ∧ SqL K H a (cs.map V.ref) ∧ H b = some (.lst st) ∧ cs.length = rows.length ∧ (∀ (i : Nat) c r, cs[i]? = some c → rows[i]? = some r → H c = some (.lst r)) ∧ (st ++ rows.flatten).length ≤ 100000 ∧
  (rows = [] → Q (.ref b) H) ∧ (rows ≠ [] → ∀ p, H p = none → Q (.ref p) (upd H p (.lst (st ++ rows.flatten))))
theorem vals_at {xs : List V} {us : List Value} (h : Vals xs us) : ∀ {i : Nat} {u : Value}, us[i]? = some u → ∃ x, xs[i]? = some x ∧ RelV x u := by
  induction h with
  | nil => intro i u e; simp at e
  | cons r t ih =>
    intro i u e
    cases i with
    | zero =>
      simp only [List.getElem?_cons_zero, Option.some.injEq] at e
      subst e
      exact ⟨_, rfl, r⟩
    | succ i => exact ih (by simpa using e)
theorem rows_vals {st : List V} {rows : List (List V)} {start : List Value} {row : Nat → List Value} (h0 : Vals st start) (hr : ∀ i, i < rows.length → Vals (rows.getD i []) (row i)) : ∀ i, i ≤ rows.length → Vals (st ++ (rows.take i).flatten) (HT.rowsTo start row i)
  | 0, _ => by
    show Vals (st ++ (rows.take 0).flatten) start
    simpa using h0
  | i + 1, h => by
    have ih := rows_vals h0 hr i (by omega)
    have e : rows.take (i + 1) = rows.take i ++ [rows.getD i []] := by
      rw [List.take_add_one, List.getD_eq_getElem?_getD, List.getElem?_eq_getElem (show i < rows.length by omega)]; rfl
    rw [e, List.flatten_append, ← List.append_assoc]
    show Vals _ (HT.rowsTo start row i ++ row i)
    simpa using ih.append (hr i (by omega))
open Classical in
theorem cr_sumL {X : Cx} (hc : X.calm = true) : CallR X (.builtin "sum") (rSumL X.K) := by
  intro pins s σ H vs us Q I r h
  obtain ⟨a, b, cs, rows, st, rfl, hs, hb, hl, hrow, hz, q0, q1⟩ := h
  obtain ⟨its, rv, isl, _⟩ := I.list hs
  obtain ⟨z1, start, e1, r1, l1, g1⟩ := I.lstM hb
  obtain ⟨u1, u2, rfl, ra, rb⟩ := vals2 r
  obtain rfl : u1 = Value.ref a := ra
  obtain rfl : u2 = Value.ref b := rb
  have ln : its.toArray.size = rows.length := by rw [List.size_toArray, ← rv.length, List.length_map, hl]
  have each : ∀ i, i < rows.length → ∃ vsi e, Vals (rows.getD i []) vsi ∧ s.heap.get? (cs.getD i 0) = some (HT.lsO vsi e) := fun i hi => by
    have hc' : cs[i]? = some (cs.getD i 0) := by rw [List.getD_eq_getElem?_getD, List.getElem?_eq_getElem (by omega)]; rfl
    have hr' : rows[i]? = some (rows.getD i []) := by rw [List.getD_eq_getElem?_getD, List.getElem?_eq_getElem hi]; rfl
    obtain ⟨_, its', n', r', _, g'⟩ := I.lstM (hrow i _ _ hc' hr')
    exact ⟨its', n', r', g'⟩
  let row : Nat → List Value := fun i => if h : i < rows.length then (each i h).choose else []
  have hrv : ∀ i, (h : i < rows.length) → Vals (rows.getD i []) (row i) ∧ ∃ e, s.heap.get? (cs.getD i 0) = some (HT.lsO (row i) e) := fun i h => by
    have := (each i h).choose_spec
    have er : row i = (each i h).choose := dif_pos h
    rw [er]
    obtain ⟨e, p1, p2⟩ := this
    exact ⟨p1, e, p2⟩
  have rvs := rows_vals r1 (fun i h => (hrv i h).1)
  have full := rvs rows.length (Nat.le_refl _)
  rw [List.take_length] at full
  have line : (st ++ rows.flatten).length ≤ sizeLine := sz hz
  refine HT.call_sumL (I.ok.hd hc) (cs := fun i => cs.getD i 0) (start := start) (row := row) isl.isList ⟨e1, g1⟩ (fun i v hv => ?_) (fun i hi => (hrv i (by omega)).2) (by rw [ln, ← full.length]; exact line) (fun T h' k e' t0 t1 kp eT => ?_)
  · obtain ⟨x, hx, rx⟩ := vals_at rv (by simpa using hv)
    rw [List.getElem?_map] at hx
    obtain ⟨c, hc', rfl⟩ := Option.map_eq_some_iff.mp hx
    rw [List.getD_eq_getElem?_getD, hc']
    exact rx
  · rw [ln] at eT t0 t1
    by_cases c : rows = []
    · rw [t0 (by rw [c]; rfl)]
      exact ⟨.ref b, H, I.kept kp, rfl, q0 c⟩
    · have lp : 0 < rows.length := List.length_pos_iff.mpr c
      have ge : s.heap.objs.size ≤ T := t1 lp
      exact ⟨.ref T, upd H T (.lst (st ++ rows.flatten)), I.laid kp ge ⟨line, _, e', full, eT⟩, rfl, q1 c T (I.hok.fresh ge)⟩
end Cm
namespace Cm
open PySem PySem.Spec PyProof.Rows L2
theorem k_sumL {K : PySem.W.Frag} {H : Hp} {Q : VK} {a b : Addr} {cs : List Addr} {rows : List (List V)} {st : List V} (hs : SqL K H a (cs.map V.ref)) (hb : H b = some (.lst st)) (hl : cs.length = rows.length) (hr : ∀ (i : Nat) c r, cs[i]? = some c → rows[i]? = some r → H c = some (.lst r)) (hz : (st ++ rows.flatten).length ≤ 100000)
    (h : ∀ p H', (p = b ∨ H p = none) → Same H H' → H' p = some (.lst (st ++ rows.flatten)) → Q (.ref p) H') : rSumL K [.ref a, .ref b] H Q :=
  ⟨a, b, cs, rows, st, rfl, hs, hb, hl, hr, hz, fun e => h b H (.inl rfl) (Same.refl _) (by rw [e]; simpa using hb), fun _ p np => h p _ (.inr np) (same_new np) upd_same⟩
end Cm

namespace Pf
open PySem PySem.Spec PyProof.Rows L2 Cm
local macro_rules | `(tactic| wtm_at "smh") => `(tactic| with_reducible first
  | assumption
  | (refine Same.trans ?_ (by assumption); wtm_at "smx")
  | (refine Same.trans ?_ (hid_mono (by assumption)); wtm_at "smx"))
local macro_rules | `(tactic| wtm_at "smx") => `(tactic| with_reducible first
  | exact Same.refl _
  | assumption
  | exact hid_same _ _
  | (refine Same.trans ?_ (by assumption); wtm_at "smx")
  | (refine Same.trans ?_ (hid_mono (by assumption)); wtm_at "smx")
  | (apply hid_back; wtm_at "smh"))
local macro_rules | `(tactic| wtm_at "sm") => `(tactic| wtm_at "smx")
local macro_rules | `(tactic| wtm_at "at") => `(tactic| with_reducible first
  | assumption
  | exact upd_same
  | (refine at_same (by assumption) ?_; wtm_at "smx"))
local macro_rules | `(tactic| wtm_at "le") => `(tactic| with_reducible first
  | assumption
  | (refine Le.same (by assumption) ?_; wtm_at "smx"))
local macro_rules | `(tactic| wtm_at "dp") => `(tactic| with_reducible first
  | assumption
  | exact .int _
  | exact .str _
  | exact .bl _
  | (refine dp_same ?_ (by assumption); wtm_at "smx")
  | (refine dpa_same ?_ (by assumption); wtm_at "smx")
  | (refine dpI_at (by assumption) ?_; wtm_at "smx")
  | (refine dpP_at (by assumption) ?_; wtm_at "smx"))
local macro_rules | `(tactic| wtm_at "sq") => `(tactic| with_reducible first
  | assumption
  | exact sl (by assumption)
  | exact stp (by assumption)
  | (refine sl_at (by assumption) ?_; wtm_at "smx")
  | (refine st_at (by assumption) ?_; wtm_at "smx")
  | (refine Same.seq ?_ (by assumption); wtm_at "smx")
  | (refine same_seqT ?_ (by assumption); wtm_at "smx")
  | ((show SqL _ (upd _ _ _) _ _); exact sl upd_same)
  | ((show SqT _ (upd _ _ _) _ _); exact stp upd_same))
local macro_rules | `(tactic| wtm_at "cI") => `(tactic| first
  | (refine Or.inl ⟨?_, ?_⟩ <;> omega)
  | (refine Or.inr ⟨?_, ?_⟩ <;> omega)
  | (refine ⟨?_, ?_⟩ <;> omega)
  | decide)
local macro_rules | `(tactic| wtm_at "pf") => `(tactic| first | omega | decide)
local macro_rules | `(tactic| wtm_at "s2") => `(tactic| with_reducible first
  | ((show ite _ _ _); first
    | refine k_itDT (by with_unfolding_all wtm_at "pf") ?_
    | refine k_itDF (by with_unfolding_all wtm_at "pf") ?_
    | refine k_itNT (by with_unfolding_all wtm_at "pf") ?_
    | refine k_itNF (by with_unfolding_all wtm_at "pf") ?_)
  | ((show rLenX _ _ _ _); first
    | refine k_len0 (by assumption) ?_
    | refine k_lenI (by wtm_at "sq") ?_
    | refine k_len (by wtm_at "sq") ?_)
  | ((show gTup _ _ _ _ _ _ _); refine k_gtup (by wtm_at "sq") (by with_unfolding_all rfl) ?_)
  | ((show rIxT _ (V.ref _) (V.int _) _ _); refine k_ixT (by wtm_at "sq") (by with_unfolding_all rfl) ?_)
  | ((show wipe _ _ = wipe _ _ ∧ _); refine k_wipe (by with_unfolding_all rfl) ?_)
  | ((show rIn _ _ _ _ _ _); first
    | refine k_inI (by wtm_at "sq") ?_
    | refine k_notInI (by wtm_at "sq") ?_)
  | ((show rIsi _ _ _ _); refine k_isiL (by wtm_at "sq") ?_)
  | ((show xMod _ _ _ _); refine k_mod (by with_unfolding_all first | decide | omega) ?_)
  | ((show xMul _ _ _ _); refine k_mul (by with_unfolding_all wtm_at "cI") ?_)
  | ((show xDiv _ _ _ _); refine k_div (by with_unfolding_all wtm_at "cI") ?_)
  | ((show xPow _ _ _ _); refine k_pow (by with_unfolding_all exact ⟨by decide, by decide, by decide⟩) ?_)
  | ((show rMinT _ _ _ _); refine k_minT (by wtm_at "sq") ?_)
  | ((show rMaxT _ _ _ _); refine k_maxT (by wtm_at "sq") ?_)
  | ((show ∃ j' : Int, [V.int _] = [.int j'] ∧ _); refine k_rj1 (by with_unfolding_all omega) (by with_unfolding_all omega) ?_)
  | ((show ∃ i' j' : Int, [V.int _, V.int _] = [.int i', .int j'] ∧ _); refine k_rj2 (by with_unfolding_all omega) ?_))
local macro_rules | `(tactic| wtm_at "s1") => `(tactic| first
  | refine go ?_
  | wtm_at "s2")
local macro_rules | `(tactic| wtm_at "s") => `(tactic| repeat wtm_at "s1")
def topS (i : Nat) : Stmt := PySem.Challenge.pw_tiehues_k35_best_lots.main.body.getD i (.Pass ⟨0, 0, 0, 0⟩)
abbrev s_must_be_crossing : Stmt := topS 8
theorem sc_must_be_crossing : FnScope ["crossing", "many", "pairs", "s", "t"] ["crossing"] (defScope s_must_be_crossing) := ⟨rfl, rfl, rfl, by decide +kernel, rfl, by decide +kernel, by decide +kernel⟩
abbrev s_load_at : Stmt := topS 9
theorem sc_load_at : FnScope ["crossing", "many", "pairs", "tie", "pair"] ["crossing"] (defScope s_load_at) := ⟨rfl, rfl, rfl, by decide +kernel, rfl, by decide +kernel, by decide +kernel⟩
abbrev s_bound_of : Stmt := topS 10
theorem sc_bound_of : FnScope ["crossing", "lot", "within", "half", "s", "t"] ["crossing", "lot"] (defScope s_bound_of) := ⟨rfl, rfl, rfl, by decide +kernel, rfl, by decide +kernel, by decide +kernel⟩
abbrev s_lots_of : Stmt := topS 11
theorem sc_lots_of : FnScope ["many", "size", "least", "found", "tie", "rest"] ["many", "size", "least"] (defScope s_lots_of) := ⟨rfl, rfl, rfl, by decide +kernel, rfl, by decide +kernel, by decide +kernel⟩
abbrev s_best_lot : Stmt := topS 12
theorem sc_best_lot : FnScope ["crossing", "best", "size", "lot"] ["crossing"] (defScope s_best_lot) := ⟨rfl, rfl, rfl, by decide +kernel, rfl, by decide +kernel, by decide +kernel⟩
abbrev s_law_purse : Stmt := topS 14
theorem sc_law_purse : FnScope ["_law_script", "_law_cells"] ["_law_script"] (defScope s_law_purse) := ⟨rfl, rfl, rfl, by decide +kernel, rfl, by decide +kernel, by decide +kernel⟩
abbrev s_law_draw : Stmt := topS 15
theorem sc_law_draw : FnScope ["_law_purse_here", "_law_out_of", "_law_cells", "_law_turn", "_law_at", "_law_cell", "_law_number"] ["_law_purse_here", "_law_out_of"] (defScope s_law_draw) := ⟨rfl, rfl, rfl, by decide +kernel, rfl, by decide +kernel, by decide +kernel⟩
abbrev s_law_crossing : Stmt := topS 16
theorem sc_law_crossing : FnScope ["_law_purse_here", "_law_many", "_law_way", "_law_size", "_law_pairs", "_law_k", "_law_one", "_law_other"] ["_law_purse_here"] (defScope s_law_crossing) := ⟨rfl, rfl, rfl, by decide +kernel, rfl, by decide +kernel, by decide +kernel⟩
abbrev s_law_lots : Stmt := topS 17
theorem sc_law_lots : FnScope ["_law_many", "_law_found", "_law_bits", "_law_lot", "_law_tie", "_law_size"] ["_law_many"] (defScope s_law_lots) := ⟨rfl, rfl, rfl, by decide +kernel, rfl, by decide +kernel, by decide +kernel⟩
abbrev s_law_bound : Stmt := topS 18
theorem sc_law_bound : FnScope ["_law_crossing_here", "_law_lot", "_law_within", "_law_half", "_law_pair"] ["_law_crossing_here", "_law_lot"] (defScope s_law_bound) := ⟨rfl, rfl, rfl, by decide +kernel, rfl, by decide +kernel, by decide +kernel⟩
abbrev s_law_due : Stmt := topS 19
theorem sc_law_due : FnScope ["_law_crossing_here", "_law_greatest", "_law_tie", "_law_due_here", "_law_lot", "_law_bound_here", "_law_pair"] ["_law_crossing_here"] (defScope s_law_due) := ⟨rfl, rfl, rfl, by decide +kernel, rfl, by decide +kernel, by decide +kernel⟩
abbrev s_law_whole : Stmt := topS 20
theorem sc_law_whole : FnScope ["_law_found"] ["_law_found"] (defScope s_law_whole) := ⟨rfl, rfl, rfl, by decide +kernel, rfl, by decide +kernel, by decide +kernel⟩
abbrev s_law_same : Stmt := topS 21
theorem sc_law_same : FnScope ["_law_found", "_law_due_here", "_law_tie"] ["_law_found", "_law_due_here"] (defScope s_law_same) := ⟨rfl, rfl, rfl, by decide +kernel, rfl, by decide +kernel, by decide +kernel⟩
abbrev s_law : Stmt := topS 22
theorem sc_law : FnScope ["_law_script", "_law_purse_here", "_law_turn", "_law_crossing_here", "_law_due_here", "_law_handed", "_law_found"] ["_law_script"] (defScope s_law) := ⟨rfl, rfl, rfl, by decide +kernel, rfl, by decide +kernel, by decide +kernel⟩
structure Ad where
  a_must_be_crossing : Addr
  d_must_be_crossing : FuncData
  a_load_at : Addr
  d_load_at : FuncData
  a_bound_of : Addr
  d_bound_of : FuncData
  a_lots_of : Addr
  d_lots_of : FuncData
  a_best_lot : Addr
  d_best_lot : FuncData
  a_law_purse : Addr
  d_law_purse : FuncData
  a_law_draw : Addr
  d_law_draw : FuncData
  a_law_crossing : Addr
  d_law_crossing : FuncData
  a_law_lots : Addr
  d_law_lots : FuncData
  a_law_bound : Addr
  d_law_bound : FuncData
  a_law_due : Addr
  d_law_due : FuncData
  a_law_whole : Addr
  d_law_whole : FuncData
  a_law_same : Addr
  d_law_same : FuncData
  a_law : Addr
  d_law : FuncData
structure Txt (K : PySem.W.Frag) (mg : Str → Option Value) (A : Ad) : Prop where
  g_must_be_crossing : mg "must_be_crossing" = some (.ref A.a_must_be_crossing)
  F_must_be_crossing : Fun K "must_be_crossing" "must_be_crossing" s_must_be_crossing A.a_must_be_crossing A.d_must_be_crossing
  b_must_be_crossing : Binds K A.d_must_be_crossing ["crossing"] []
  g_load_at : mg "load_at" = some (.ref A.a_load_at)
  F_load_at : Fun K "load_at" "load_at" s_load_at A.a_load_at A.d_load_at
  b_load_at : Binds K A.d_load_at ["crossing"] []
  g_bound_of : mg "bound_of" = some (.ref A.a_bound_of)
  F_bound_of : Fun K "bound_of" "bound_of" s_bound_of A.a_bound_of A.d_bound_of
  b_bound_of : Binds K A.d_bound_of ["crossing", "lot"] []
  g_lots_of : mg "lots_of" = some (.ref A.a_lots_of)
  F_lots_of : Fun K "lots_of" "lots_of" s_lots_of A.a_lots_of A.d_lots_of
  b_lots_of : Binds K A.d_lots_of ["many", "size", "least"] []
  g_best_lot : mg "best_lot" = some (.ref A.a_best_lot)
  F_best_lot : Fun K "best_lot" "best_lot" s_best_lot A.a_best_lot A.d_best_lot
  b_best_lot : Binds K A.d_best_lot ["crossing"] []
  g_law_purse : mg "_law_purse" = some (.ref A.a_law_purse)
  F_law_purse : Fun K "_law_purse" "_law_purse" s_law_purse A.a_law_purse A.d_law_purse
  b_law_purse : Binds K A.d_law_purse ["_law_script"] []
  g_law_draw : mg "_law_draw" = some (.ref A.a_law_draw)
  F_law_draw : Fun K "_law_draw" "_law_draw" s_law_draw A.a_law_draw A.d_law_draw
  b_law_draw : Binds K A.d_law_draw ["_law_purse_here", "_law_out_of"] []
  g_law_crossing : mg "_law_crossing" = some (.ref A.a_law_crossing)
  F_law_crossing : Fun K "_law_crossing" "_law_crossing" s_law_crossing A.a_law_crossing A.d_law_crossing
  b_law_crossing : Binds K A.d_law_crossing ["_law_purse_here"] []
  g_law_lots : mg "_law_lots" = some (.ref A.a_law_lots)
  F_law_lots : Fun K "_law_lots" "_law_lots" s_law_lots A.a_law_lots A.d_law_lots
  b_law_lots : Binds K A.d_law_lots ["_law_many"] []
  g_law_bound : mg "_law_bound" = some (.ref A.a_law_bound)
  F_law_bound : Fun K "_law_bound" "_law_bound" s_law_bound A.a_law_bound A.d_law_bound
  b_law_bound : Binds K A.d_law_bound ["_law_crossing_here", "_law_lot"] []
  g_law_due : mg "_law_due" = some (.ref A.a_law_due)
  F_law_due : Fun K "_law_due" "_law_due" s_law_due A.a_law_due A.d_law_due
  b_law_due : Binds K A.d_law_due ["_law_crossing_here"] []
  g_law_whole : mg "_law_whole" = some (.ref A.a_law_whole)
  F_law_whole : Fun K "_law_whole" "_law_whole" s_law_whole A.a_law_whole A.d_law_whole
  b_law_whole : Binds K A.d_law_whole ["_law_found"] []
  g_law_same : mg "_law_same" = some (.ref A.a_law_same)
  F_law_same : Fun K "_law_same" "_law_same" s_law_same A.a_law_same A.d_law_same
  b_law_same : Binds K A.d_law_same ["_law_found", "_law_due_here"] []
  g_law : mg "law" = some (.ref A.a_law)
  F_law : Fun K "law" "law" s_law A.a_law A.d_law
  b_law : Binds K A.d_law ["_law_script"] []
  c_MOST_TIES : mg "MOST_TIES" = some (.int 60 (g_tok mg "MOST_TIES"))
  c_MOST_PAIRS : mg "MOST_PAIRS" = some (.int 60 (g_tok mg "MOST_PAIRS"))
  c_MOST_LOTS : mg "MOST_LOTS" = some (.int 12 (g_tok mg "MOST_LOTS"))
  z_bool : mg "bool" = none
  z_int : mg "int" = none
  z_isinstance : mg "isinstance" = none
  z_len : mg "len" = none
  z_list : mg "list" = none
  z_max : mg "max" = none
  z_min : mg "min" = none
  z_range : mg "range" = none
  z_sorted : mg "sorted" = none
  z_tuple : mg "tuple" = none
variable {P : Program} {w : World} {K : PySem.W.Frag} {mg : Str → Option Value} {base : Heap} {A : Ad}
/-! ### pairs that meet: chains of two hues, and one and a half times the load -/
def On (p : Int × Int) (v : Int) : Prop := p.1 = v ∨ p.2 = v
instance (p : Int × Int) (v : Int) : Decidable (On p v) := inferInstanceAs (Decidable (_ ∨ _))
/-- hues of the first n pairs: a tie has a hue -/
def Has (n : Nat) (P : Nat → Int × Int) (C : Nat → Int) (v h : Int) : Prop := ∃ k, k < n ∧ C k = h ∧ On (P k) v
def Prp (n : Nat) (P : Nat → Int × Int) (C : Nat → Int) : Prop := ∀ i j, i < n → j < n → i ≠ j → C i = C j → ∀ v, On (P i) v → ¬ On (P j) v
/-- a chain of two hues from a tie on, the one hue first, and the tie at its end -/
inductive Chn (n : Nat) (P : Nat → Int × Int) (C : Nat → Int) : Int → Int → Int → List Nat → Option Int → Prop where
  | stop {v h o : Int} : ¬ Has n P C v h → Chn n P C v h o [] (some v)
  | loop {v h o : Int} {k : Nat} : k < n → C k = h → On (P k) v → (P k).1 = (P k).2 → Chn n P C v h o [k] none
  | step {v h o : Int} {k : Nat} {r : List Nat} {e : Option Int} : k < n → C k = h → On (P k) v → (P k).1 ≠ (P k).2 → Chn n P C ((P k).1 + (P k).2 - v) o h r e → Chn n P C v h o (k :: r) e
section
variable {n : Nat} {P : Nat → Int × Int} {C : Nat → Int}
theorem Prp.one (p : Prp n P C) {i j : Nat} {v : Int} (hi : i < n) (hj : j < n) (e : C i = C j) (a : On (P i) v) (b : On (P j) v) : i = j :=
  Classical.byContradiction fun ne => p i j hi hj ne e v a b
theorem Chn.det (p : Prp n P C) {v h o : Int} {r r' : List Nat} {e e' : Option Int} (a : Chn n P C v h o r e) (b : Chn n P C v h o r' e') : r = r' ∧ e = e' := by
  induction a generalizing r' e' with
  | stop h1 => cases b with
    | stop _ => exact ⟨rfl, rfl⟩
    | loop k1 k2 k3 _ => exact absurd ⟨_, k1, k2, k3⟩ h1
    | step k1 k2 k3 _ _ => exact absurd ⟨_, k1, k2, k3⟩ h1
  | loop k1 k2 k3 k4 => cases b with
    | stop h1 => exact absurd ⟨_, k1, k2, k3⟩ h1
    | loop j1 j2 j3 j4 => exact ⟨by rw [p.one k1 j1 (by rw [k2, j2]) k3 j3], rfl⟩
    | step j1 j2 j3 j4 _ => have := p.one k1 j1 (by rw [k2, j2]) k3 j3; subst this; exact absurd k4 j4
  | step k1 k2 k3 k4 _ ih => cases b with
    | stop h1 => exact absurd ⟨_, k1, k2, k3⟩ h1
    | loop j1 j2 j3 j4 => have := p.one k1 j1 (by rw [k2, j2]) k3 j3; subst this; exact absurd j4 k4
    | step j1 j2 j3 j4 j5 =>
      have := p.one k1 j1 (by rw [k2, j2]) k3 j3
      subst this
      obtain ⟨h1, h2⟩ := ih j5
      exact ⟨by rw [h1], h2⟩
/-- two hues exchanged on some pairs -/
def flp (F : List Nat) (h o : Int) (C : Nat → Int) : Nat → Int := fun k => if k ∈ F then h + o - C k else C k
theorem flp_comm (F : List Nat) (h o : Int) (C : Nat → Int) : flp F o h C = flp F h o C := by
  funext k; unfold flp; split <;> omega
/-- all that clashes does so at v, by the hue h; v has no o -/
structure Alm (n : Nat) (P : Nat → Int × Int) (C : Nat → Int) (v h o : Int) : Prop where
  at_ : ∀ i j, i < n → j < n → i ≠ j → C i = C j → ∀ w, On (P i) w → On (P j) w → w = v ∧ C i = h
  no : ¬ Has n P C v o
theorem other_end {p : Int × Int} {v : Int} (h : On p v) (ne : p.1 ≠ p.2) : On p (p.1 + p.2 - v) ∧ p.1 + p.2 - v ≠ v := by
  unfold On at h ⊢
  rcases h with h | h <;> subst h
  · exact ⟨.inr (by omega), by omega⟩
  · exact ⟨.inl (by omega), by omega⟩
theorem end_of {p : Int × Int} {v w : Int} (h : On p v) (hw : On p w) : w = v ∨ w = p.1 + p.2 - v := by
  unfold On at h hw
  omega
theorem flp_snoc (F : List Nat) (h o : Int) (C : Nat → Int) (k : Nat) : ∀ j, flp (F ++ [k]) h o C j = if j = k then h + o - C j else flp F h o C j := by
  intro j
  unfold flp
  by_cases c : j = k
  · subst c; simp
  · by_cases d : j ∈ F
    · simp [c, d]
    · simp [c, d]
/-- of the pairs at v with the hue h, some flipped, there is but the one that is not flipped -/
theorem two_at {F : List Nat} {v h o : Int} (p : Prp n P C) (hF : ∀ k ∈ F, k < n ∧ (C k = h ∨ C k = o)) {i j : Nat} (hi : i < n) (hj : j < n) (ij : i ≠ j) (ei : flp F h o C i = h) (ej : flp F h o C j = h) (wi : On (P i) v) (wj : On (P j) v) : ∃ k, k < n ∧ k ∉ F ∧ C k = h ∧ On (P k) v ∧ (k = i ∨ k = j) := by
  unfold flp at ei ej
  by_cases ci : i ∈ F
  · by_cases cj : j ∈ F
    · rw [if_pos ci] at ei
      rw [if_pos cj] at ej
      exact absurd wj (p i j hi hj ij (by omega) v wi)
    · rw [if_neg cj] at ej
      exact ⟨j, hj, cj, ej, wj, .inr rfl⟩
  · rw [if_neg ci] at ei
    exact ⟨i, hi, ci, ei, wi, .inl rfl⟩
/-- one step: the pair k, of the hue that is sought, is flipped -/
theorem flip_one {F : List Nat} {v h o : Int} {k : Nat} (p : Prp n P C) (hF : ∀ k ∈ F, k < n ∧ (C k = h ∨ C k = o)) (a : Alm n P (flp F h o C) v h o) (hk : k < n) (hC : C k = h) (hv : On (P k) v) :
    k ∉ F ∧ flp (F ++ [k]) h o C k = o ∧ ∀ i j, i < n → j < n → i ≠ j → flp (F ++ [k]) h o C i = flp (F ++ [k]) h o C j → ∀ w, On (P i) w → On (P j) w → w ≠ v ∧ (i = k ∨ j = k) ∧ flp (F ++ [k]) h o C i = o := by
  have kF : k ∉ F := fun z => a.no ⟨k, hk, by unfold flp; rw [if_pos z, hC]; omega, hv⟩
  have fk' : flp (F ++ [k]) h o C k = o := by rw [flp_snoc, if_pos rfl, hC]; omega
  have fj : ∀ j, j ≠ k → flp (F ++ [k]) h o C j = flp F h o C j := fun j hj => by rw [flp_snoc, if_neg hj]
  refine ⟨kF, fk', fun i j hi hj ij e w wi wj => ?_⟩
  by_cases ci : i = k
  · subst ci
    rw [fk', fj j (fun z => ij z.symm)] at e
    exact ⟨fun z => by subst z; exact a.no ⟨j, hj, e.symm, wj⟩, .inl rfl, fk'⟩
  · by_cases cj : j = k
    · subst cj
      rw [fk', fj i ci] at e
      exact ⟨fun z => by subst z; exact a.no ⟨i, hi, e, wi⟩, .inr rfl, by rw [fj i ci]; exact e⟩
    · rw [fj i ci, fj j cj] at e
      exfalso
      obtain ⟨rfl, eh⟩ := a.at_ i j hi hj ij e w wi wj
      obtain ⟨l, l1, l2, l3, l4, l5⟩ := two_at p hF hi hj ij eh (by rw [← e]; exact eh) wi wj
      have : l = k := p.one l1 hk (by rw [l3, hC]) l4 hv
      rcases l5 with z | z <;> omega
/-- a chain's pairs, flipped, clash nowhere -/
theorem Chn.flip {v h o : Int} {r : List Nat} {e : Option Int} (c : Chn n P C v h o r e) (p : Prp n P C) : h ≠ o → ∀ (F : List Nat), (∀ k ∈ F, k < n ∧ (C k = h ∨ C k = o)) → Alm n P (flp F h o C) v h o → F.Nodup →
    (F ++ r).Nodup ∧ (∀ k ∈ r, k < n ∧ (C k = h ∨ C k = o)) ∧ Prp n P (flp (F ++ r) h o C) := by
  induction c with
  | @stop v h o h1 =>
    intro ho F hF a nd
    refine ⟨by simpa using nd, fun k z => (by cases z), ?_⟩
    rw [List.append_nil]
    intro i j hi hj ij e w wi wj
    obtain ⟨rfl, eh⟩ := a.at_ i j hi hj ij e w wi wj
    obtain ⟨l, l1, l2, l3, l4, l5⟩ := two_at p hF hi hj ij eh (by rw [← e]; exact eh) wi wj
    exact h1 ⟨l, l1, l3, l4⟩
  | @loop v h o k k1 k2 k3 k4 =>
    intro ho F hF a nd
    obtain ⟨kF, fk, cl⟩ := flip_one p hF a k1 k2 k3
    refine ⟨?_, ?_, fun i j hi hj ij e w wi wj => ?_⟩
    · rw [List.nodup_append]
      exact ⟨nd, by simp, fun x hx y hy e => by rw [List.mem_singleton.mp hy] at e; subst e; exact kF hx⟩
    · intro x hx
      rw [List.mem_singleton.mp hx]
      exact ⟨k1, .inl k2⟩
    · obtain ⟨c1, c2, c3⟩ := cl i j hi hj ij e w wi wj
      unfold On at k3
      rcases c2 with rfl | rfl
      · unfold On at wi; omega
      · unfold On at wj; omega
  | @step v h o k r e k1 k2 k3 k4 _ ih =>
    intro ho F hF a nd
    obtain ⟨kF, fk, cl⟩ := flip_one p hF a k1 k2 k3
    obtain ⟨ev, env⟩ := other_end k3 k4
    have nd' : (F ++ [k]).Nodup := by
      rw [List.nodup_append]
      exact ⟨nd, by simp, fun x hx y hy e => by rw [List.mem_singleton.mp hy] at e; subst e; exact kF hx⟩
    have hF' : ∀ j ∈ F ++ [k], j < n ∧ (C j = o ∨ C j = h) := fun j hj => by
      rcases List.mem_append.mp hj with hj | hj
      · exact ⟨(hF j hj).1, (hF j hj).2.symm⟩
      · rw [List.mem_singleton.mp hj]; exact ⟨k1, .inr k2⟩
    have a' : Alm n P (flp (F ++ [k]) o h C) ((P k).1 + (P k).2 - v) o h := by
      rw [flp_comm]
      refine ⟨fun i j hi hj ij e w wi wj => ?_, ?_⟩
      · obtain ⟨c1, c2, c3⟩ := cl i j hi hj ij e w wi wj
        refine ⟨?_, c3⟩
        rcases c2 with rfl | rfl
        · rcases end_of k3 wi with z | z
          · exact absurd z c1
          · exact z
        · rcases end_of k3 wj with z | z
          · exact absurd z c1
          · exact z
      · rintro ⟨j, hj, ej, wj⟩
        by_cases cj : j = k
        · subst cj; rw [fk] at ej; exact ho ej.symm
        · rw [flp_snoc, if_neg cj] at ej
          have fkF : flp F h o C k = h := by unfold flp; rw [if_neg kF, k2]
          exact env (a.at_ j k hj k1 cj (by rw [ej, fkF]) _ wj ev).1
    obtain ⟨g1, g2, g3⟩ := ih (fun z => ho z.symm) (F ++ [k]) hF' a' nd'
    rw [List.append_assoc] at g1 g3
    refine ⟨g1, ?_, by rw [← flp_comm]; exact g3⟩
    intro j hj
    rcases List.mem_cons.mp hj with rfl | hj
    · exact ⟨k1, .inl k2⟩
    · exact ⟨(g2 j hj).1, (g2 j hj).2.symm⟩
theorem Alm.start {v h o : Int} (p : Prp n P C) (no : ¬ Has n P C v o) : Alm n P (flp [] h o C) v h o := by
  have e : flp [] h o C = C := by funext k; unfold flp; rw [if_neg (by simp)]
  rw [e]
  exact ⟨fun i j hi hj ij e w wi wj => absurd wj (p i j hi hj ij e w wi), no⟩
/-- the whole of it: from a tie that lacks the other hue -/
theorem Chn.flip0 {v h o : Int} {r : List Nat} {e : Option Int} (c : Chn n P C v h o r e) (p : Prp n P C) (ho : h ≠ o) (no : ¬ Has n P C v o) : r.Nodup ∧ (∀ k ∈ r, k < n ∧ (C k = h ∨ C k = o)) ∧ Prp n P (flp r h o C) := by
  have := c.flip p ho [] (fun k z => by cases z) (Alm.start p no) List.nodup_nil
  simpa only [List.nil_append] using this
theorem nodup_lt {l : List Nat} (nd : l.Nodup) (h : ∀ k ∈ l, k < n) : l.length ≤ n := by
  have : ∀ (n : Nat) (l : List Nat), l.Nodup → (∀ k ∈ l, k < n) → l.length ≤ n := by
    intro n
    induction n with
    | zero => intro l _ h; cases l with
      | nil => simp
      | cons a r => exact absurd (h a List.mem_cons_self) (by omega)
    | succ n ih =>
      intro l nd h
      by_cases c : n ∈ l
      · have := ih (l.erase n) (nd.erase n) (fun k hk => by
          have h1 := h k (List.mem_of_mem_erase hk)
          have h2 : k ≠ n := fun z => by subst z; exact (List.Nodup.not_mem_erase nd) hk
          omega)
        rw [List.length_erase_of_mem c] at this
        omega
      · have := ih l nd (fun k hk => by
          have h1 := h k hk
          have h2 : k ≠ n := fun z => c (z ▸ hk)
          omega)
        omega
  exact this n l nd h
/-- there is such a chain -/
theorem chn_ex {v h o : Int} (p : Prp n P C) (ho : h ≠ o) (no : ¬ Has n P C v o) : ∃ r e, Chn n P C v h o r e := by
  have key : ∀ (m : Nat) (F : List Nat) (v h o : Int), h ≠ o → F.length + m = n + 1 → (∀ k ∈ F, k < n ∧ (C k = h ∨ C k = o)) → Alm n P (flp F h o C) v h o → F.Nodup → ∃ r e, Chn n P C v h o r e := by
    intro m
    induction m with
    | zero =>
      intro F v h o ho hm hF a nd
      have := nodup_lt nd fun k hk => (hF k hk).1
      omega
    | succ m ih =>
      intro F v h o ho hm hF a nd
      by_cases c : Has n P C v h
      · obtain ⟨k, k1, k2, k3⟩ := c
        by_cases d : (P k).1 = (P k).2
        · exact ⟨_, _, .loop k1 k2 k3 d⟩
        · obtain ⟨kF, fk, cl⟩ := flip_one p hF a k1 k2 k3
          obtain ⟨ev, env⟩ := other_end k3 d
          have nd' : (F ++ [k]).Nodup := by
            rw [List.nodup_append]
            exact ⟨nd, by simp, fun x hx y hy e => by rw [List.mem_singleton.mp hy] at e; subst e; exact kF hx⟩
          have hF' : ∀ j ∈ F ++ [k], j < n ∧ (C j = o ∨ C j = h) := fun j hj => by
            rcases List.mem_append.mp hj with hj | hj
            · exact ⟨(hF j hj).1, (hF j hj).2.symm⟩
            · rw [List.mem_singleton.mp hj]; exact ⟨k1, .inr k2⟩
          have a' : Alm n P (flp (F ++ [k]) o h C) ((P k).1 + (P k).2 - v) o h := by
            rw [flp_comm]
            refine ⟨fun i j hi hj ij e w wi wj => ?_, ?_⟩
            · obtain ⟨c1, c2, c3⟩ := cl i j hi hj ij e w wi wj
              refine ⟨?_, c3⟩
              rcases c2 with rfl | rfl
              · rcases end_of k3 wi with z | z
                · exact absurd z c1
                · exact z
              · rcases end_of k3 wj with z | z
                · exact absurd z c1
                · exact z
            · rintro ⟨j, hj, ej, wj⟩
              by_cases cj : j = k
              · subst cj; rw [fk] at ej; exact ho ej.symm
              · rw [flp_snoc, if_neg cj] at ej
                have fkF : flp F h o C k = h := by unfold flp; rw [if_neg kF, k2]
                exact env (a.at_ j k hj k1 cj (by rw [ej, fkF]) _ wj ev).1
          obtain ⟨r, e, g⟩ := ih (F ++ [k]) _ o h (fun z => ho z.symm) (by simp; omega) hF' a' nd'
          exact ⟨_, _, .step k1 k2 k3 d g⟩
      · exact ⟨_, _, .stop c⟩
  exact key (n + 1) [] v h o ho (by simp) (fun k z => by cases z) (Alm.start p no) List.nodup_nil
/-- a chain that touches a tie by the hue b, where the other hue a is lacking, ends there -/
theorem Chn.touch {v h o : Int} {r : List Nat} {e : Option Int} (c : Chn n P C v h o r e) {a b w : Int} (lack : ¬ Has n P C w a) (ab : (h = a ∧ o = b) ∨ (h = b ∧ o = a)) {j : Nat} (hj : j ∈ r) (jb : C j = b) (jw : On (P j) w) (ne : a ≠ b) : e = some w ∨ (w = v ∧ h = b) := by
  induction c with
  | stop => cases hj
  | @loop v h o k k1 k2 k3 k4 =>
    rw [List.mem_singleton.mp hj] at jb jw
    refine .inr ⟨?_, by omega⟩
    unfold On at k3 jw
    omega
  | @step v h o k r e k1 k2 k3 k4 g ih =>
    rcases List.mem_cons.mp hj with rfl | hj
    · have hb : h = b := by omega
      have oa : o = a := by rcases ab with ⟨z1, z2⟩ | ⟨z1, z2⟩ <;> omega
      rcases end_of k3 jw with z | z
      · exact .inr ⟨z, hb⟩
      · left
        subst z oa
        cases g with
        | stop _ => rfl
        | loop g1 g2 g3 _ => exact absurd ⟨_, g1, g2, g3⟩ lack
        | step g1 g2 g3 _ _ => exact absurd ⟨_, g1, g2, g3⟩ lack
    · rcases ih (ab.symm.imp (fun z => ⟨z.2, z.1⟩) (fun z => ⟨z.2, z.1⟩)) hj with z | ⟨z1, z2⟩
      · exact .inl z
      · exfalso
        have ha : h = a := by rcases ab with ⟨z3, z4⟩ | ⟨z3, z4⟩ <;> omega
        exact lack ⟨k, k1, by rw [k2, ha], by rw [z1]; exact (other_end k3 k4).1⟩
/-- one step of a chain -/
def St (n : Nat) (P : Nat → Int × Int) (C : Nat → Int) (x y : Int × Int × Int) : Prop := ∃ k, k < n ∧ C k = x.2.1 ∧ On (P k) x.1 ∧ (P k).1 ≠ (P k).2 ∧ y = ((P k).1 + (P k).2 - x.1, x.2.2, x.2.1)
inductive Rn (n : Nat) (P : Nat → Int × Int) (C : Nat → Int) : Int × Int × Int → Int × Int × Int → Prop where
  | nil {x : Int × Int × Int} : Rn n P C x x
  | snoc {x y z : Int × Int × Int} : Rn n P C x y → St n P C y z → Rn n P C x z
theorem Rn.cons {x y z : Int × Int × Int} (a : St n P C x y) (b : Rn n P C y z) : Rn n P C x z := by
  induction b with
  | nil => exact .snoc .nil a
  | snoc _ s ih => exact .snoc ih s
theorem Rn.last {x z : Int × Int × Int} (a : Rn n P C x z) : x = z ∨ ∃ y, Rn n P C x y ∧ St n P C y z := by
  cases a with
  | nil => exact .inl rfl
  | snoc q1 q2 => exact .inr ⟨_, q1, q2⟩
theorem Chn.run {v h o : Int} {r : List Nat} {w : Int} {e : Option Int} (c : Chn n P C v h o r e) (he : e = some w) : ∃ x y, Rn n P C (v, h, o) (w, x, y) ∧ ¬ Has n P C w x ∧ ((x = h ∧ y = o) ∨ (x = o ∧ y = h)) := by
  induction c with
  | stop h1 => cases he; exact ⟨_, _, .nil, h1, .inl ⟨rfl, rfl⟩⟩
  | loop => cases he
  | @step v h o k r e k1 k2 k3 k4 g ih =>
    obtain ⟨x, y, g1, g2, g3⟩ := ih he
    exact ⟨x, y, .cons ⟨k, k1, k2, k3, k4, rfl⟩ g1, g2, g3.symm⟩
theorem St.inj (p : Prp n P C) {x y z : Int × Int × Int} (a : St n P C x z) (b : St n P C y z) : x = y := by
  obtain ⟨k, a1, a2, a3, a4, rfl⟩ := a
  obtain ⟨l, b1, b2, b3, b4, e⟩ := b
  obtain ⟨x1, x2, x3⟩ := x
  obtain ⟨y1, y2, y3⟩ := y
  simp only [Prod.mk.injEq] at e
  obtain ⟨e1, e2, e3⟩ := e
  simp only at a2 a3 b2 b3
  subst e2 e3
  have oa := (other_end a3 a4).1
  have ob := (other_end b3 b4).1
  have : k = l := p.one a1 b1 (by rw [a2, b2]) oa (by rw [e1]; exact ob)
  subst this
  have : x1 = y1 := by omega
  subst this
  rfl
/-- what leads to a state that has no predecessor -/
theorem Rn.inj (p : Prp n P C) {x y z : Int × Int × Int} (a : Rn n P C x z) (b : Rn n P C y z) (nx : ∀ u, ¬ St n P C u x) (ny : ∀ u, ¬ St n P C u y) : x = y := by
  induction a generalizing y with
  | nil => cases b with
    | nil => rfl
    | snoc _ s => exact absurd s (nx _)
  | snoc a1 s1 ih => cases b with
    | nil => exact absurd s1 (ny _)
    | snoc b1 s2 =>
      have := St.inj p s1 s2
      subst this
      exact ih b1 ny
theorem no_pre {v h o : Int} (lack : ¬ Has n P C v o) : ∀ u, ¬ St n P C u (v, h, o) := by
  rintro ⟨u1, u2, u3⟩ ⟨k, k1, k2, k3, k4, e⟩
  simp only [Prod.mk.injEq] at e k2 k3
  obtain ⟨e1, e2, e3⟩ := e
  exact lack ⟨k, k1, by rw [k2, e3], by rw [e1]; exact (other_end k3 k4).1⟩
end
section
variable {n : Nat} {P : Nat → Int × Int} {C : Nat → Int}
theorem Prp.congr {C' : Nat → Int} (h : ∀ j, j < n → C' j = C j) (p : Prp n P C) : Prp n P C' := fun i j hi hj ij e v a b => p i j hi hj ij (by rw [← h i hi, ← h j hj]; exact e) v a b
theorem has_congr {C' : Nat → Int} (h : ∀ j, j < n → C' j = C j) {v x : Int} : Has n P C' v x ↔ Has n P C v x :=
  ⟨fun ⟨k, k1, k2, k3⟩ => ⟨k, k1, by rw [← h k k1]; exact k2, k3⟩, fun ⟨k, k1, k2, k3⟩ => ⟨k, k1, by rw [h k k1]; exact k2, k3⟩⟩
/-- one pair more, of a hue that is free at both its ties -/
theorem Prp.more {C' : Nat → Int} {x : Int} (p : Prp n P C) (h : ∀ j, j < n → C' j = C j) (hx : C' n = x) (h1 : ¬ Has n P C (P n).1 x) (h2 : ¬ Has n P C (P n).2 x) : Prp (n + 1) P C' := by
  have free : ∀ j, j < n → C' j = x → ∀ v, On (P n) v → ¬ On (P j) v := fun j hj e v a b => by
    rw [h j hj] at e
    rcases a with a | a
    · exact h1 ⟨j, hj, e, a ▸ b⟩
    · exact h2 ⟨j, hj, e, a ▸ b⟩
  intro i j hi hj ij e v a b
  by_cases ci : i = n
  · subst ci
    exact free j (by omega) (by rw [← e, hx]) v a b
  · by_cases cj : j = n
    · subst cj
      exact free i (by omega) (by rw [e, hx]) v b a
    · exact p i j (by omega) (by omega) ij (by rw [← h i (by omega), ← h j (by omega)]; exact e) v a b
/-- a chain's first tie gives up the first hue -/
theorem Chn.frees {v h o : Int} {r : List Nat} {e : Option Int} (c : Chn n P C v h o r e) (p : Prp n P C) (no : ¬ Has n P C v o) : ¬ Has n P (flp r h o C) v h := by
  rintro ⟨j, j1, j2, j3⟩
  unfold flp at j2
  by_cases d : j ∈ r
  · rw [if_pos d] at j2
    exact no ⟨j, j1, by omega, j3⟩
  · rw [if_neg d] at j2
    cases c with
    | stop h1 => exact h1 ⟨j, j1, j2, j3⟩
    | loop k1 k2 k3 k4 => exact d (by rw [p.one j1 k1 (by rw [j2, k2]) j3 k3]; simp)
    | step k1 k2 k3 k4 _ => exact d (by rw [p.one j1 k1 (by rw [j2, k2]) j3 k3]; simp)
/-- a tie that lacks the first hue, and at which the chain doesn't end, lacks it still -/
theorem Chn.keeps {v h o w : Int} {r : List Nat} {e : Option Int} (c : Chn n P C v h o r e) (ho : h ≠ o) (lack : ¬ Has n P C w h) (he : e ≠ some w) : ¬ Has n P (flp r h o C) w h := by
  rintro ⟨j, j1, j2, j3⟩
  unfold flp at j2
  by_cases d : j ∈ r
  · rw [if_pos d] at j2
    rcases c.touch lack (.inl ⟨rfl, rfl⟩) d (by omega : C j = o) j3 ho with z | ⟨_, z⟩
    · exact he z
    · exact ho z
  · rw [if_neg d] at j2
    exact lack ⟨j, j1, j2, j3⟩
/-- where a chain from t ends at s: the last pair, and the tie beyond it -/
theorem Chn.back {s t a b : Int} {r : List Nat} (c : Chn n P C t a b r (some s)) (p : Prp n P C) (ab : a ≠ b) (st : s ≠ t) (lack : ¬ Has n P C s a) : ∃ k, k < n ∧ C k = b ∧ On (P k) s ∧ (P k).1 ≠ (P k).2 ∧ Has n P C ((P k).1 + (P k).2 - s) a ∧ Rn n P C (t, a, b) (s, a, b) := by
  obtain ⟨x, y, g1, g2, g3⟩ := c.run rfl
  cases g1 with
  | nil => exact absurd rfl st
  | snoc q1 q2 =>
    rename_i u
    obtain ⟨u1, u2, u3⟩ := u
    obtain ⟨k, k1, k2, k3, k4, k5⟩ := id q2
    simp only [Prod.mk.injEq] at k2 k3 k5
    obtain ⟨e1, e2, e3⟩ := k5
    have os := (other_end k3 k4).1
    rw [← e1] at os
    have yb : y = b := by
      rcases g3 with ⟨z1, z2⟩ | ⟨z1, z2⟩
      · exact z2
      · exfalso
        exact lack ⟨k, k1, by rw [k2, ← e3, z2], os⟩
    have xa : x = a := by
      rcases g3 with ⟨z1, z2⟩ | ⟨z1, z2⟩
      · exact z1
      · exact absurd (z2.symm.trans yb) ab
    have hu : u1 = (P k).1 + (P k).2 - s := by omega
    have hb : C k = b := by rw [k2, ← e3, yb]
    refine ⟨k, k1, hb, os, k4, ?_, by have fin := Rn.snoc q1 q2; rw [xa, yb] at fin; exact fin⟩
    have u2' : u2 = b := by rw [← e3, yb]
    have u3' : u3 = a := by rw [← e2, xa]
    subst hu u2' u3'
    cases q1 with
    | nil => exact absurd rfl ab
    | snoc m1 m2 =>
      rename_i m
      obtain ⟨w1, w2, w3⟩ := m
      obtain ⟨l, l1, l2, l3, l4, l5⟩ := m2
      simp only [Prod.mk.injEq] at l2 l3 l5
      refine ⟨l, l1, by rw [l2, ← l5.2.2], ?_⟩
      rw [l5.1]
      exact (other_end l3 l4).1
/-- how many hues a tie has -/
noncomputable def hasB (n : Nat) (P : Nat → Int × Int) (C : Nat → Int) (v : Int) (x : Nat) : Bool := @decide (Has n P C v (x : Int)) (Classical.propDecidable _)
theorem hasB_iff {v : Int} {x : Nat} : hasB n P C v x = true ↔ Has n P C v (x : Int) := by unfold hasB; simp
def deg (n : Nat) (P : Nat → Int × Int) (v : Int) : Nat := (List.range n).countP fun j => decide (On (P j) v)
theorem cnt_or {α : Type} {l : List α} {p q r : α → Bool} (h : ∀ x, p x = true → q x = true ∨ r x = true) : l.countP p ≤ l.countP q + l.countP r := by
  induction l with
  | nil => simp
  | cons a t ih =>
    rw [List.countP_cons, List.countP_cons, List.countP_cons]
    by_cases c : p a = true
    · rcases h a c with d | d <;> simp only [c, d, if_true] <;> omega
    · rw [if_neg c]
      split <;> split <;> omega
theorem cnt_eq1 (M : Nat) (x : Int) : (List.range M).countP (fun (y : Nat) => decide ((y : Int) = x)) ≤ 1 := by
  induction M with
  | zero => simp
  | succ m ih =>
    rw [List.range_succ, List.countP_append]
    by_cases c : (m : Int) = x
    · have z : (List.range m).countP (fun (y : Nat) => decide ((y : Int) = x)) = 0 := by
        rw [List.countP_eq_zero]
        intro y hy
        have := List.mem_range.mp hy
        simp; omega
      rw [z]; simp [List.countP_cons]; split <;> omega
    · simp [c]; exact ih
theorem used_le (M : Nat) (v : Int) : (List.range M).countP (hasB n P C v) ≤ deg n P v := by
  induction n with
  | zero =>
    have : (List.range M).countP (hasB 0 P C v) = 0 := by
      rw [List.countP_eq_zero]
      intro x _ h
      obtain ⟨k, k1, _⟩ := hasB_iff.mp h
      omega
    omega
  | succ n ih =>
    have e : deg (n + 1) P v = deg n P v + if On (P n) v then 1 else 0 := by
      unfold deg
      rw [List.range_succ, List.countP_append, List.countP_singleton]
      simp
    rw [e]
    by_cases c : On (P n) v
    · rw [if_pos c]
      have h1 := cnt_or (l := List.range M) (p := hasB (n + 1) P C v) (q := hasB n P C v) (r := fun (y : Nat) => decide ((y : Int) = C n)) (fun x hx => by
        obtain ⟨k, k1, k2, k3⟩ := hasB_iff.mp hx
        by_cases d : k = n
        · subst d; right; simp [k2]
        · left; exact hasB_iff.mpr ⟨k, by omega, k2, k3⟩)
      have h2 := cnt_eq1 M (C n)
      omega
    · rw [if_neg c]
      have h1 : (List.range M).countP (hasB (n + 1) P C v) ≤ (List.range M).countP (hasB n P C v) := List.countP_mono_left fun x _ hx => by
        obtain ⟨k, k1, k2, k3⟩ := hasB_iff.mp hx
        by_cases d : k = n
        · subst d; exact absurd k3 c
        · exact hasB_iff.mpr ⟨k, by omega, k2, k3⟩
      omega
/-- a tie with fewer pairs than hues lacks one -/
theorem lack_ex {M : Nat} {v : Int} (h : deg n P v < M) : ∃ x : Nat, x < M ∧ ¬ Has n P C v (x : Int) := by
  refine Classical.byContradiction fun z => ?_
  have : (List.range M).countP (hasB n P C v) = M := by
    have e : (List.range M).countP (hasB n P C v) = (List.range M).length := List.countP_eq_length.mpr fun x hx => hasB_iff.mpr (Classical.byContradiction fun w => z ⟨x, List.mem_range.mp hx, w⟩)
    rw [e]; simp
  have := used_le (n := n) (P := P) (C := C) M v
  omega
theorem cnt_two {α : Type} {l : List α} {p q r : α → Bool} (h : ∀ x ∈ l, (p x = true ∧ q x = true) ∨ (p x = true ∧ r x = true) ∨ (q x = true ∧ r x = true)) : 2 * l.length ≤ l.countP p + l.countP q + l.countP r := by
  induction l with
  | nil => simp
  | cons a t ih =>
    have := ih fun x hx => h x (List.mem_cons_of_mem _ hx)
    rw [List.countP_cons, List.countP_cons, List.countP_cons, List.length_cons]
    rcases h a List.mem_cons_self with ⟨c, d⟩ | ⟨c, d⟩ | ⟨c, d⟩ <;> simp only [c, d, if_true] <;> split <;> omega
/-- of three ties, two of which have a pair more to come, two lack one hue -/
theorem two_lack {M L : Nat} {s t z : Int} (hM : M = 3 * L / 2) (L1 : 1 ≤ L) (hs : deg n P s + 1 ≤ L) (ht : deg n P t + 1 ≤ L) (hz : deg n P z ≤ L) : ∃ x : Nat, x < M ∧ ((¬ Has n P C s (x : Int) ∧ ¬ Has n P C t (x : Int)) ∨ (¬ Has n P C s (x : Int) ∧ ¬ Has n P C z (x : Int)) ∨ (¬ Has n P C t (x : Int) ∧ ¬ Has n P C z (x : Int))) := by
  refine Classical.byContradiction fun no => ?_
  have h := cnt_two (l := List.range M) (p := hasB n P C s) (q := hasB n P C t) (r := hasB n P C z) (fun x hx => by
    have hx' := List.mem_range.mp hx
    refine Classical.byContradiction fun w => no ⟨x, hx', ?_⟩
    simp only [hasB_iff] at w
    by_cases a : Has n P C s (x : Int)
    · by_cases b : Has n P C t (x : Int)
      · exact absurd (.inl ⟨a, b⟩) w
      · by_cases c : Has n P C z (x : Int)
        · exact absurd (.inr (.inl ⟨a, c⟩)) w
        · exact .inr (.inr ⟨b, c⟩)
    · by_cases b : Has n P C t (x : Int)
      · by_cases c : Has n P C z (x : Int)
        · exact absurd (.inr (.inr ⟨b, c⟩)) w
        · exact .inr (.inl ⟨a, c⟩)
      · exact .inl ⟨a, b⟩)
  have u1 := used_le (n := n) (P := P) (C := C) M s
  have u2 := used_le (n := n) (P := P) (C := C) M t
  have u3 := used_le (n := n) (P := P) (C := C) M z
  rw [List.length_range] at h
  omega
end
/-! ### the same by lists: what the program does -/
abbrev Pj (ps : List (Int × Int)) : Nat → Int × Int := fun j => ps.getD j (0, 0)
abbrev Cj (cs : List Int) : Nat → Int := fun j => cs.getD j 0
def byF (ps : List (Int × Int)) (cs : List Int) (v h : Int) : Option Nat := (List.range cs.length).find? fun j => decide (Cj cs j = h) && decide (On (Pj ps j) v)
def freeF (ps : List (Int × Int)) (cs : List Int) (M : Nat) (v : Int) : List Int := ((List.range M).map fun (i : Nat) => (i : Int)).filter fun h => (byF ps cs v h).isNone
abbrev ChnL (ps : List (Int × Int)) (cs : List Int) := Chn cs.length (Pj ps) (Cj cs)
abbrev HasL (ps : List (Int × Int)) (cs : List Int) := Has cs.length (Pj ps) (Cj cs)
abbrev PrpL (ps : List (Int × Int)) (cs : List Int) := Prp cs.length (Pj ps) (Cj cs)
open Classical in
noncomputable def chnF (ps : List (Int × Int)) (cs : List Int) (v h o : Int) : List Nat × Option Int := if x : ∃ re : List Nat × Option Int, ChnL ps cs v h o re.1 re.2 then x.choose else ([], none)
def exF (cs : List Int) (r : List Nat) (h o : Int) : List Int := (List.range cs.length).map fun j => flp r h o (Cj cs) j
open Classical in
noncomputable def tryB (ps : List (Int × Int)) (cs : List Int) (s t a : Int) (bs : List Int) : Option Int := bs.find? fun b => decide ((chnF ps cs t a b).2 ≠ some s)
noncomputable def tryF (ps : List (Int × Int)) (cs : List Int) (s t : Int) (as bs : List Int) : Option (Int × Int) := as.findSome? fun a => (tryB ps cs s t a bs).map fun b => (a, b)
noncomputable def directF (ps : List (Int × Int)) (M : Nat) (cs : List Int) (k : Nat) : Option (List Int) := match (freeF ps cs M (Pj ps k).1).filter (fun x => decide (x ∈ freeF ps cs M (Pj ps k).2)) with
  | x :: _ => some (cs ++ [x])
  | [] => match tryF ps cs (Pj ps k).1 (Pj ps k).2 (freeF ps cs M (Pj ps k).1) (freeF ps cs M (Pj ps k).2) with
    | some ab => some (exF cs (chnF ps cs (Pj ps k).2 ab.1 ab.2).1 ab.1 ab.2 ++ [ab.1])
    | none => none
/-- what round_about goes by: the free hue b, the pair that has it, the tie beyond, the hues a and c -/
structure Rnd (ps : List (Int × Int)) (M : Nat) (cs : List Int) (k : Nat) (b a c : Int) (o : Nat) (r : List Nat) (e : Option Int) : Prop where
  hb : ∃ l, freeF ps cs M (Pj ps k).2 = b :: l
  ho : byF ps cs (Pj ps k).1 b = some o
  ha : ∃ l, freeF ps cs M (Pj ps k).1 = a :: l
  hc : ∃ l, (freeF ps cs M (Pj ps k).2).filter (fun x => decide (x ∈ freeF ps cs M ((Pj ps o).1 + (Pj ps o).2 - (Pj ps k).1))) = c :: l
  hr : ChnL ps cs ((Pj ps o).1 + (Pj ps o).2 - (Pj ps k).1) a c r e
def rndF (cs : List Int) (b a c : Int) (o : Nat) (r : List Nat) : List Int := (exF cs r a c).set o a ++ [b]
open Classical in
noncomputable def putF (ps : List (Int × Int)) (M : Nat) (cs : List Int) (k : Nat) : List Int := match directF ps M cs k with
  | some cs' => cs'
  | none => if x : ∃ y : Int × Int × Int × Nat × List Nat × Option Int, Rnd ps M cs k y.1 y.2.1 y.2.2.1 y.2.2.2.1 y.2.2.2.2.1 y.2.2.2.2.2 then rndF cs x.choose.1 x.choose.2.1 x.choose.2.2.1 x.choose.2.2.2.1 x.choose.2.2.2.2.1 else cs
noncomputable def crossF (ps : List (Int × Int)) (M : Nat) : Nat → List Int
  | 0 => []
  | k + 1 => putF ps M (crossF ps M k) k
section
variable {ps : List (Int × Int)} {cs : List Int} {M : Nat}
theorem by_some {v h : Int} {k : Nat} (e : byF ps cs v h = some k) : k < cs.length ∧ Cj cs k = h ∧ On (Pj ps k) v := by
  unfold byF at e
  have h1 := List.mem_of_find?_eq_some e
  have h2 := List.find?_some e
  simp only [Bool.and_eq_true, decide_eq_true_eq] at h2
  exact ⟨List.mem_range.mp h1, h2.1, h2.2⟩
theorem by_none {v h : Int} (e : byF ps cs v h = none) : ¬ HasL ps cs v h := by
  unfold byF at e
  rintro ⟨k, k1, k2, k3⟩
  have := List.find?_eq_none.mp e k (List.mem_range.mpr k1)
  simp only [Bool.and_eq_true, decide_eq_true_eq] at this
  exact this ⟨k2, k3⟩
theorem by_has {v h : Int} (x : HasL ps cs v h) : ∃ k, byF ps cs v h = some k := by
  cases e : byF ps cs v h with
  | some k => exact ⟨k, rfl⟩
  | none => exact absurd x (by_none e)
theorem free_mem {v x : Int} : x ∈ freeF ps cs M v ↔ 0 ≤ x ∧ x < M ∧ ¬ HasL ps cs v x := by
  unfold freeF
  rw [List.mem_filter, List.mem_map]
  constructor
  · rintro ⟨⟨i, hi, rfl⟩, h⟩
    have := List.mem_range.mp hi
    refine ⟨by omega, by omega, ?_⟩
    cases e : byF ps cs v (i : Int) with
    | some k => rw [e] at h; cases h
    | none => exact by_none e
  · rintro ⟨h0, h1, h2⟩
    refine ⟨⟨x.toNat, List.mem_range.mpr (by omega), by omega⟩, ?_⟩
    cases e : byF ps cs v x with
    | some k => exact absurd ⟨k, by_some e⟩ h2
    | none => rfl
theorem chnF_eq {v h o : Int} {r : List Nat} {e : Option Int} (p : PrpL ps cs) (c : ChnL ps cs v h o r e) : chnF ps cs v h o = (r, e) := by
  unfold chnF
  have x : ∃ re : List Nat × Option Int, ChnL ps cs v h o re.1 re.2 := ⟨(r, e), c⟩
  rw [dif_pos x]
  obtain ⟨h1, h2⟩ := Chn.det p x.choose_spec c
  exact Prod.ext h1 h2
theorem ex_len (r : List Nat) (h o : Int) : (exF cs r h o).length = cs.length := by unfold exF; simp
theorem ex_at {r : List Nat} {h o : Int} {j : Nat} (hj : j < cs.length) : Cj (exF cs r h o) j = flp r h o (Cj cs) j := by
  show (exF cs r h o).getD j 0 = _
  unfold exF
  rw [List.getD_eq_getElem?_getD, List.getElem?_map, List.getElem?_range hj]; rfl
theorem snoc_at {x : Int} {j : Nat} (hj : j < cs.length) : Cj (cs ++ [x]) j = Cj cs j := by
  show (cs ++ [x]).getD j 0 = cs.getD j 0
  rw [List.getD_eq_getElem?_getD, List.getD_eq_getElem?_getD, List.getElem?_append_left hj]
theorem snoc_last {x : Int} : Cj (cs ++ [x]) cs.length = x := by
  show (cs ++ [x]).getD cs.length 0 = x
  rw [List.getD_eq_getElem?_getD, List.getElem?_append_right (Nat.le_refl _)]; simp
/-- right hues of the first pairs, all less than M -/
structure Good (ps : List (Int × Int)) (cs : List Int) (M : Nat) : Prop where
  len : cs.length ≤ ps.length
  prp : PrpL ps cs
  bnd : ∀ c ∈ cs, 0 ≤ c ∧ c < M
theorem Good.nil : Good ps [] M := ⟨by simp, (fun i j hi => by simp at hi), fun c z => by cases z⟩
theorem Good.at {c : List Int} (g : Good ps c M) {j : Nat} (hj : j < c.length) : 0 ≤ Cj c j ∧ Cj c j < M := g.bnd _ (by
  show c.getD j 0 ∈ c
  rw [List.getD_eq_getElem?_getD, List.getElem?_eq_getElem hj]
  exact List.getElem_mem hj)
theorem good_of {c : List Int} (l : c.length ≤ ps.length) (p : PrpL ps c) (b : ∀ j, j < c.length → 0 ≤ Cj c j ∧ Cj c j < M) : Good ps c M := ⟨l, p, fun x hx => by
  obtain ⟨j, hj, rfl⟩ := List.mem_iff_getElem.mp hx
  have := b j hj
  have e : Cj c j = c[j] := by show c.getD j 0 = c[j]; rw [List.getD_eq_getElem?_getD, List.getElem?_eq_getElem hj]; rfl
  rwa [e] at this⟩
theorem Good.snoc {x : Int} (g : Good ps cs M) (l : cs.length < ps.length) (h1 : ¬ HasL ps cs (Pj ps cs.length).1 x) (h2 : ¬ HasL ps cs (Pj ps cs.length).2 x) (x0 : 0 ≤ x) (x1 : x < M) : Good ps (cs ++ [x]) M := by
  refine ⟨by simp; omega, ?_, fun c hc => ?_⟩
  · have := g.prp.more (C' := Cj (cs ++ [x])) (fun j hj => snoc_at hj) snoc_last h1 h2
    have e : (cs ++ [x]).length = cs.length + 1 := by simp
    show Prp (cs ++ [x]).length _ _
    rw [e]; exact this
  · rcases List.mem_append.mp hc with hc | hc
    · exact g.bnd c hc
    · rw [List.mem_singleton.mp hc]; exact ⟨x0, x1⟩
theorem Good.ex {v h o : Int} {r : List Nat} {e : Option Int} (g : Good ps cs M) (c : ChnL ps cs v h o r e) (ho : h ≠ o) (no : ¬ HasL ps cs v o) (h0 : 0 ≤ h ∧ h < M) (o0 : 0 ≤ o ∧ o < M) : Good ps (exF cs r h o) M := by
  obtain ⟨_, f2, f3⟩ := c.flip0 g.prp ho no
  refine good_of (by rw [ex_len]; exact g.len) ?_ ?_
  · show Prp (exF cs r h o).length _ _
    rw [ex_len]
    exact f3.congr fun j hj => ex_at hj
  · intro j hj
    rw [ex_len] at hj
    rw [ex_at hj]
    unfold flp
    split
    · rename_i d
      rcases (f2 j d).2 with z | z <;> omega
    · exact g.at hj
theorem has_ex {r : List Nat} {h o v x : Int} : HasL ps (exF cs r h o) v x ↔ Has cs.length (Pj ps) (flp r h o (Cj cs)) v x := by
  show Has (exF cs r h o).length _ _ v x ↔ _
  rw [ex_len]
  exact has_congr fun j hj => ex_at hj
/-- where no hue is free at both ties: what is known -/
structure Apart (ps : List (Int × Int)) (cs : List Int) (M : Nat) (s t : Int) : Prop where
  no : ∀ x, x ∈ freeF ps cs M s → x ∉ freeF ps cs M t
theorem filter_nil {as bs : List Int} (h : as.filter (fun x => decide (x ∈ bs)) = []) : ∀ x, x ∈ as → x ∉ bs := fun x hx hb => by
  have := List.filter_eq_nil_iff.mp h x hx
  simp at this
  exact this hb
theorem tryF_none {s t : Int} {as bs : List Int} (h : tryF ps cs s t as bs = none) : ∀ a ∈ as, ∀ b ∈ bs, (chnF ps cs t a b).2 = some s := fun a ha b hb => by
  unfold tryF at h
  have h1 := List.findSome?_eq_none_iff.mp h a ha
  have h2 : tryB ps cs s t a bs = none := by
    cases e : tryB ps cs s t a bs with
    | none => rfl
    | some b => rw [e] at h1; cases h1
  unfold tryB at h2
  have := List.find?_eq_none.mp h2 b hb
  simpa using this
theorem tryF_some {s t : Int} {as bs : List Int} {ab : Int × Int} (h : tryF ps cs s t as bs = some ab) : ab.1 ∈ as ∧ ab.2 ∈ bs ∧ (chnF ps cs t ab.1 ab.2).2 ≠ some s := by
  unfold tryF at h
  obtain ⟨a, ha, h1⟩ := List.exists_of_findSome?_eq_some h
  obtain ⟨b, hb, rfl⟩ := Option.map_eq_some_iff.mp h1
  unfold tryB at hb
  have h2 := List.find?_some hb
  simp at h2
  exact ⟨ha, List.mem_of_find?_eq_some hb, h2⟩
/-- a chain from the second tie by free hues that are unlike -/
theorem chn_at {t a b : Int} {s : Int} (g : Good ps cs M) (ap : Apart ps cs M s t) (ha : a ∈ freeF ps cs M s) (hb : b ∈ freeF ps cs M t) : a ≠ b ∧ ¬ HasL ps cs t b ∧ ¬ HasL ps cs s a ∧ ∃ r e, ChnL ps cs t a b r e ∧ chnF ps cs t a b = (r, e) := by
  have ne : a ≠ b := fun z => ap.no a ha (z ▸ hb)
  have nb := (free_mem.mp hb).2.2
  obtain ⟨r, e, c⟩ := chn_ex g.prp ne nb
  exact ⟨ne, nb, (free_mem.mp ha).2.2, r, e, c, chnF_eq g.prp c⟩
theorem direct_good {k : Nat} {cs' : List Int} (g : Good ps cs M) (hk : cs.length = k) (hl : k < ps.length) (h : directF ps M cs k = some cs') : Good ps cs' M ∧ cs'.length = k + 1 := by
  subst hk
  unfold directF at h
  split at h
  · rename_i x l e
    cases h
    have hx : x ∈ (freeF ps cs M (Pj ps cs.length).1).filter (fun x => decide (x ∈ freeF ps cs M (Pj ps cs.length).2)) := by rw [e]; exact List.mem_cons_self
    obtain ⟨h1, h2⟩ := List.mem_filter.mp hx
    have h2' : x ∈ freeF ps cs M (Pj ps cs.length).2 := by simpa using h2
    obtain ⟨a1, a2, a3⟩ := free_mem.mp h1
    exact ⟨g.snoc hl a3 (free_mem.mp h2').2.2 a1 a2, by simp⟩
  · rename_i e
    split at h
    · rename_i ab e2
      cases h
      obtain ⟨h1, h2, h3⟩ := tryF_some e2
      obtain ⟨ne, nb, na, r, en, c, ce⟩ := chn_at g ⟨filter_nil e⟩ h1 h2
      rw [ce] at h3 ⊢
      obtain ⟨a1, a2, _⟩ := free_mem.mp h1
      obtain ⟨b1, b2, _⟩ := free_mem.mp h2
      have g2 := g.ex c ne nb ⟨a1, a2⟩ ⟨b1, b2⟩
      have l2 := ex_len (cs := cs) r ab.1 ab.2
      refine ⟨g2.snoc (by rw [l2]; exact hl) ?_ ?_ a1 a2, by simp [l2]⟩
      · rw [l2, has_ex]; exact c.keeps ne na h3
      · rw [l2, has_ex]; exact c.frees g.prp nb
    · cases h
theorem head_ex {v : Int} (h : deg cs.length (Pj ps) v < M) : ∃ x l, freeF ps cs M v = x :: l := by
  obtain ⟨x, h1, h2⟩ := lack_ex (C := Cj cs) h
  have : (x : Int) ∈ freeF ps cs M v := free_mem.mpr ⟨by omega, by omega, h2⟩
  cases e : freeF ps cs M v with
  | nil => rw [e] at this; cases this
  | cons y l => exact ⟨y, l, rfl⟩
theorem deg_mono {n m : Nat} {P : Nat → Int × Int} {v : Int} (h : n ≤ m) : deg n P v ≤ deg m P v := by
  unfold deg
  obtain ⟨d, rfl⟩ := Nat.exists_eq_add_of_le h
  rw [List.range_add, List.countP_append]
  omega
theorem deg_next {n m : Nat} {P : Nat → Int × Int} {v : Int} (h : n < m) (on : On (P n) v) : deg n P v + 1 ≤ deg m P v := by
  refine Nat.le_trans ?_ (deg_mono (n := n + 1) h)
  unfold deg
  rw [List.range_succ, List.countP_append, List.countP_singleton]
  simp [on]
/-- where direct fails: what round_about goes by is there, and what it makes is right -/
theorem rnd_ex {k L : Nat} (g : Good ps cs M) (hk : cs.length = k) (hl : k < ps.length) (hM : M = 3 * L / 2) (hL : ∀ v, deg ps.length (Pj ps) v ≤ L) (h : directF ps M cs k = none) : ∃ b a c o r e, Rnd ps M cs k b a c o r e := by
  subst hk
  have ds := deg_next (P := Pj ps) hl (.inl rfl : On (Pj ps cs.length) (Pj ps cs.length).1)
  have dt := deg_next (P := Pj ps) hl (.inr rfl : On (Pj ps cs.length) (Pj ps cs.length).2)
  have Ls := hL (Pj ps cs.length).1
  have Lt := hL (Pj ps cs.length).2
  unfold directF at h
  split at h
  · cases h
  rename_i e
  split at h
  · cases h
  rename_i e2
  have ap : Apart ps cs M (Pj ps cs.length).1 (Pj ps cs.length).2 := ⟨filter_nil e⟩
  have all := tryF_none e2
  obtain ⟨a, la, ha⟩ := head_ex (ps := ps) (cs := cs) (M := M) (v := (Pj ps cs.length).1) (by omega)
  obtain ⟨b, lb, hb⟩ := head_ex (ps := ps) (cs := cs) (M := M) (v := (Pj ps cs.length).2) (by omega)
  have am : a ∈ freeF ps cs M (Pj ps cs.length).1 := by rw [ha]; exact List.mem_cons_self
  have bm : b ∈ freeF ps cs M (Pj ps cs.length).2 := by rw [hb]; exact List.mem_cons_self
  have st : (Pj ps cs.length).1 ≠ (Pj ps cs.length).2 := fun z => ap.no a am (by rw [← z]; exact am)
  have key : ∀ a', a' ∈ freeF ps cs M (Pj ps cs.length).1 → ∀ b', b' ∈ freeF ps cs M (Pj ps cs.length).2 → ∃ k, k < cs.length ∧ Cj cs k = b' ∧ On (Pj ps k) (Pj ps cs.length).1 ∧ (Pj ps k).1 ≠ (Pj ps k).2 ∧ HasL ps cs ((Pj ps k).1 + (Pj ps k).2 - (Pj ps cs.length).1) a' ∧ Rn cs.length (Pj ps) (Cj cs) ((Pj ps cs.length).2, a', b') ((Pj ps cs.length).1, a', b') := fun a' ha' b' hb' => by
    obtain ⟨ne, nb, na, r, en, c, ce⟩ := chn_at g ap ha' hb'
    have := all a' ha' b' hb'
    rw [ce] at this
    simp only at this
    subst this
    exact c.back g.prp ne st na
  obtain ⟨k, k1, k2, k3, k4, k5, k6⟩ := key a am b bm
  obtain ⟨o, ho⟩ := by_has (ps := ps) (cs := cs) ⟨k, k1, k2, k3⟩
  obtain ⟨o1, o2, o3⟩ := by_some ho
  have ok : o = k := g.prp.one o1 k1 (by rw [o2, k2]) o3 k3
  subst ok
  obtain ⟨oz, ozs⟩ := other_end k3 k4
  -- a hue that is free at t and z
  have hz : ∀ x, x ∈ freeF ps cs M (Pj ps cs.length).1 → HasL ps cs ((Pj ps o).1 + (Pj ps o).2 - (Pj ps cs.length).1) x := fun x hx => by
    obtain ⟨j, j1, j2, j3, j4, j5, _⟩ := key x hx b bm
    have : j = o := g.prp.one j1 k1 (by rw [j2, k2]) j3 k3
    subst this
    exact j5
  obtain ⟨x, x1, x2⟩ := two_lack (C := Cj cs) hM (by omega) (s := (Pj ps cs.length).1) (t := (Pj ps cs.length).2) (z := (Pj ps o).1 + (Pj ps o).2 - (Pj ps cs.length).1) (Nat.le_trans ds Ls) (Nat.le_trans dt Lt) (Nat.le_trans (deg_mono (by omega)) (hL _))
  have xm : (x : Int) ∈ (freeF ps cs M (Pj ps cs.length).2).filter (fun x => decide (x ∈ freeF ps cs M ((Pj ps o).1 + (Pj ps o).2 - (Pj ps cs.length).1))) := by
    rw [List.mem_filter]
    rcases x2 with ⟨y1, y2⟩ | ⟨y1, y2⟩ | ⟨y1, y2⟩
    · exact absurd (free_mem.mpr ⟨by omega, by omega, y2⟩) (ap.no x (free_mem.mpr ⟨by omega, by omega, y1⟩))
    · exact absurd (hz x (free_mem.mpr ⟨by omega, by omega, y1⟩)) y2
    · exact ⟨free_mem.mpr ⟨by omega, by omega, y1⟩, by simpa using free_mem.mpr ⟨by omega, by omega, y2⟩⟩
  obtain ⟨c, lc, hc⟩ : ∃ c l, (freeF ps cs M (Pj ps cs.length).2).filter (fun x => decide (x ∈ freeF ps cs M ((Pj ps o).1 + (Pj ps o).2 - (Pj ps cs.length).1))) = c :: l := by
    cases e3 : (freeF ps cs M (Pj ps cs.length).2).filter (fun x => decide (x ∈ freeF ps cs M ((Pj ps o).1 + (Pj ps o).2 - (Pj ps cs.length).1))) with
    | nil => rw [e3] at xm; cases xm
    | cons y l => exact ⟨y, l, rfl⟩
  have cm : c ∈ (freeF ps cs M (Pj ps cs.length).2).filter (fun x => decide (x ∈ freeF ps cs M ((Pj ps o).1 + (Pj ps o).2 - (Pj ps cs.length).1))) := by rw [hc]; exact List.mem_cons_self
  obtain ⟨c1, c2⟩ := List.mem_filter.mp cm
  have c2' : c ∈ freeF ps cs M ((Pj ps o).1 + (Pj ps o).2 - (Pj ps cs.length).1) := by simpa using c2
  have ac : a ≠ c := fun z => ap.no a am (z ▸ c1)
  obtain ⟨r, en, ch⟩ := chn_ex g.prp ac (free_mem.mp c2').2.2
  exact ⟨b, a, c, o, r, en, ⟨lb, hb⟩, ho, ⟨la, ha⟩, ⟨lc, hc⟩, ch⟩
theorem Rnd.one {k : Nat} {b a c b' a' c' : Int} {o o' : Nat} {r r' : List Nat} {e e' : Option Int} (p : PrpL ps cs) (x : Rnd ps M cs k b a c o r e) (y : Rnd ps M cs k b' a' c' o' r' e') : b = b' ∧ a = a' ∧ c = c' ∧ o = o' ∧ r = r' := by
  obtain ⟨⟨_, h1⟩, h2, ⟨_, h3⟩, ⟨_, h4⟩, h5⟩ := x
  obtain ⟨⟨_, g1⟩, g2, ⟨_, g3⟩, ⟨_, g4⟩, g5⟩ := y
  rw [h1] at g1
  obtain ⟨rfl, _⟩ := List.cons.inj g1
  rw [h2] at g2
  cases g2
  rw [h3] at g3
  obtain ⟨rfl, _⟩ := List.cons.inj g3
  rw [h4] at g4
  obtain ⟨rfl, _⟩ := List.cons.inj g4
  exact ⟨rfl, rfl, rfl, rfl, (Chn.det p h5 g5).1⟩
theorem putF_direct {k : Nat} {cs' : List Int} (h : directF ps M cs k = some cs') : putF ps M cs k = cs' := by
  unfold putF; rw [h]
theorem putF_rnd {k : Nat} {b a c : Int} {o : Nat} {r : List Nat} {e : Option Int} (p : PrpL ps cs) (h : directF ps M cs k = none) (x : Rnd ps M cs k b a c o r e) : putF ps M cs k = rndF cs b a c o r := by
  unfold putF
  have ex : ∃ y : Int × Int × Int × Nat × List Nat × Option Int, Rnd ps M cs k y.1 y.2.1 y.2.2.1 y.2.2.2.1 y.2.2.2.2.1 y.2.2.2.2.2 := ⟨(b, a, c, o, r, e), x⟩
  simp only [h]
  rw [dif_pos ex]
  obtain ⟨h1, h2, h3, h4, h5⟩ := Rnd.one p ex.choose_spec x
  rw [h1, h2, h3, h4, h5]
theorem set_at {o j : Nat} {a : Int} (h : o < cs.length) : Cj (cs.set o a) j = if j = o then a else Cj cs j := by
  show (cs.set o a).getD j 0 = _
  rw [List.getD_eq_getElem?_getD, List.getElem?_set]
  by_cases c : o = j
  · subst c; rw [if_pos rfl, if_pos h, if_pos rfl]; rfl
  · rw [if_neg c, if_neg (fun z => c z.symm), ← List.getD_eq_getElem?_getD]
theorem rnd_good {k L : Nat} {b a c : Int} {o : Nat} {r : List Nat} {e : Option Int} (g : Good ps cs M) (hk : cs.length = k) (hl : k < ps.length) (h : directF ps M cs k = none) (x : Rnd ps M cs k b a c o r e) : Good ps (rndF cs b a c o r) M ∧ (rndF cs b a c o r).length = k + 1 := by
  subst hk
  unfold directF at h
  split at h
  · cases h
  rename_i e1
  split at h
  · cases h
  rename_i e2
  have ap : Apart ps cs M (Pj ps cs.length).1 (Pj ps cs.length).2 := ⟨filter_nil e1⟩
  have all := tryF_none e2
  obtain ⟨⟨lb, hb⟩, ho, ⟨la, ha⟩, ⟨lc, hc⟩, ch⟩ := x
  have am : a ∈ freeF ps cs M (Pj ps cs.length).1 := by rw [ha]; exact List.mem_cons_self
  have bm : b ∈ freeF ps cs M (Pj ps cs.length).2 := by rw [hb]; exact List.mem_cons_self
  have cm : c ∈ (freeF ps cs M (Pj ps cs.length).2).filter (fun x => decide (x ∈ freeF ps cs M ((Pj ps o).1 + (Pj ps o).2 - (Pj ps cs.length).1))) := by rw [hc]; exact List.mem_cons_self
  obtain ⟨c1, c2⟩ := List.mem_filter.mp cm
  have c2' : c ∈ freeF ps cs M ((Pj ps o).1 + (Pj ps o).2 - (Pj ps cs.length).1) := by simpa using c2
  have ac : a ≠ c := fun z => ap.no a am (z ▸ c1)
  have st : (Pj ps cs.length).1 ≠ (Pj ps cs.length).2 := fun z => ap.no a am (by rw [← z]; exact am)
  have key : ∀ b', b' ∈ freeF ps cs M (Pj ps cs.length).2 → ∃ k, k < cs.length ∧ Cj cs k = b' ∧ On (Pj ps k) (Pj ps cs.length).1 ∧ (Pj ps k).1 ≠ (Pj ps k).2 ∧ HasL ps cs ((Pj ps k).1 + (Pj ps k).2 - (Pj ps cs.length).1) a ∧ Rn cs.length (Pj ps) (Cj cs) ((Pj ps cs.length).2, a, b') ((Pj ps cs.length).1, a, b') := fun b' hb' => by
    obtain ⟨ne, nb, na, r, en, c, ce⟩ := chn_at g ap am hb'
    have := all a am b' hb'
    rw [ce] at this
    simp only at this
    subst this
    exact c.back g.prp ne st na
  obtain ⟨o1, o2, o3⟩ := by_some ho
  obtain ⟨k, k1, k2, k3, k4, k5, k6⟩ := key b bm
  have ok : o = k := g.prp.one o1 k1 (by rw [o2, k2]) o3 k3
  subst ok
  obtain ⟨oz, ozs⟩ := other_end k3 k4
  obtain ⟨a0, a1, na⟩ := free_mem.mp am
  obtain ⟨b0, b1, nb⟩ := free_mem.mp bm
  obtain ⟨c0, c1', nct⟩ := free_mem.mp c1
  have ncz := (free_mem.mp c2').2.2
  have ab : a ≠ b := fun z => na (z ▸ ⟨o, o1, o2, o3⟩)
  have cb : c ≠ b := fun z => ncz (z ▸ ⟨o, o1, o2, oz⟩)
  -- the chain from beyond does not end at the first tie
  have hen : e ≠ some (Pj ps cs.length).1 := fun z => by
    obtain ⟨x, y, g1, g2, g3⟩ := ch.run z
    have fin : Rn cs.length (Pj ps) (Cj cs) ((Pj ps o).1 + (Pj ps o).2 - (Pj ps cs.length).1, a, c) ((Pj ps cs.length).1, a, c) := by
      rcases g3 with ⟨rfl, rfl⟩ | ⟨rfl, rfl⟩
      · exact g1
      · rcases g1.last with z | ⟨u, q1, q2⟩
        · simp only [Prod.mk.injEq] at z
          exact absurd z.1 ozs
        · obtain ⟨l, l1, l2, l3, l4, l5⟩ := q2
          simp only [Prod.mk.injEq] at l5
          exact absurd ⟨l, l1, by rw [l2, ← l5.2.2], by rw [l5.1]; exact (other_end l3 l4).1⟩ na
    obtain ⟨_, _, _, _, _, _, k6'⟩ := key c c1
    have := Rn.inj g.prp fin k6' (no_pre ncz) (no_pre nct)
    simp only [Prod.mk.injEq] at this
    exact nb ⟨o, o1, o2, this.1 ▸ oz⟩
  have g2 := g.ex ch ac ncz ⟨a0, a1⟩ ⟨c0, c1'⟩
  have l2 := ex_len (cs := cs) r a c
  have nsa : ¬ HasL ps (exF cs r a c) (Pj ps cs.length).1 a := by rw [has_ex]; exact ch.keeps ac na hen
  have nza : ¬ HasL ps (exF cs r a c) ((Pj ps o).1 + (Pj ps o).2 - (Pj ps cs.length).1) a := by rw [has_ex]; exact ch.frees g.prp ncz
  obtain ⟨_, f2, _⟩ := ch.flip0 g.prp ac ncz
  -- what has b stays
  have stay : ∀ j, j < cs.length → (Cj (exF cs r a c) j = b ↔ Cj cs j = b) := fun j hj => by
    rw [ex_at hj]
    unfold flp
    by_cases d : j ∈ r
    · rw [if_pos d]
      rcases (f2 j d).2 with z | z <;> omega
    · rw [if_neg d]
  have l3 : ((exF cs r a c).set o a).length = cs.length := by rw [List.length_set, l2]
  have at3 : ∀ j, Cj ((exF cs r a c).set o a) j = if j = o then a else Cj (exF cs r a c) j := fun j => set_at (by rw [l2]; exact o1)
  have free3 : ∀ j, j < cs.length → j ≠ o → Cj (exF cs r a c) j = a → ∀ v, On (Pj ps o) v → ¬ On (Pj ps j) v := fun j hj jo ej v ov jv => by
    rcases end_of o3 ov with z | z
    · subst z; exact nsa ⟨j, by rw [l2]; exact hj, ej, jv⟩
    · subst z; exact nza ⟨j, by rw [l2]; exact hj, ej, jv⟩
  have g3 : Good ps ((exF cs r a c).set o a) M := by
    refine good_of (by rw [l3]; exact g.len) ?_ ?_
    · show Prp ((exF cs r a c).set o a).length _ _
      rw [l3]
      intro i j hi hj ij eij v iv jv
      rw [at3, at3] at eij
      by_cases ci : i = o
      · subst ci
        rw [if_pos rfl, if_neg (fun z => ij z.symm)] at eij
        exact free3 j hj (fun z => ij z.symm) eij.symm v iv jv
      · rw [if_neg ci] at eij
        by_cases cj : j = o
        · subst cj
          rw [if_pos rfl] at eij
          exact free3 i hi ci eij v jv iv
        · rw [if_neg cj] at eij
          exact g2.prp i j (by rw [l2]; exact hi) (by rw [l2]; exact hj) ij eij v iv jv
    · intro j hj
      rw [l3] at hj
      rw [at3]
      split
      · exact ⟨a0, a1⟩
      · exact g2.at (by rw [l2]; exact hj)
  have nob : ∀ v, (∀ j, j < cs.length → Cj cs j = b → On (Pj ps j) v → j = o) → ¬ HasL ps ((exF cs r a c).set o a) v b := fun v hv => by
    rintro ⟨j, j1, j2, j3⟩
    rw [l3] at j1
    rw [at3] at j2
    by_cases cj : j = o
    · rw [if_pos cj] at j2; exact ab j2
    · rw [if_neg cj] at j2
      exact cj (hv j j1 ((stay j j1).mp j2) j3)
  unfold rndF
  refine ⟨g3.snoc (by rw [l3]; exact hl) ?_ ?_ b0 b1, by simp [l3]⟩
  · rw [l3]
    exact nob _ fun j j1 j2 j3 => g.prp.one j1 o1 (by rw [j2, o2]) j3 o3
  · rw [l3]
    exact nob _ fun j j1 j2 j3 => absurd ⟨j, j1, j2, j3⟩ nb
theorem put_good {k L : Nat} (g : Good ps cs M) (hk : cs.length = k) (hl : k < ps.length) (hM : M = 3 * L / 2) (hL : ∀ v, deg ps.length (Pj ps) v ≤ L) : Good ps (putF ps M cs k) M ∧ (putF ps M cs k).length = k + 1 := by
  cases h : directF ps M cs k with
  | some cs' => rw [putF_direct h]; exact direct_good g hk hl h
  | none =>
    obtain ⟨b, a, c, o, r, e, x⟩ := rnd_ex g hk hl hM hL h
    rw [putF_rnd g.prp h x]
    exact rnd_good (L := L) g hk hl h x
theorem cross_good {L : Nat} (hM : M = 3 * L / 2) (hL : ∀ v, deg ps.length (Pj ps) v ≤ L) : ∀ k, k ≤ ps.length → Good ps (crossF ps M k) M ∧ (crossF ps M k).length = k
  | 0, _ => ⟨Good.nil, rfl⟩
  | k + 1, h => by
    obtain ⟨g, l⟩ := cross_good hM hL k (by omega)
    exact put_good g l (by omega) hM hL
/-- the load -/
def IsLoad (ps : List (Int × Int)) (L : Nat) : Prop := (∀ v, deg ps.length (Pj ps) v ≤ L) ∧ (L = 0 ∨ ∃ v, deg ps.length (Pj ps) v = L)
theorem IsLoad.one {L L' : Nat} (a : IsLoad ps L) (b : IsLoad ps L') : L = L' := by
  obtain ⟨a1, a2⟩ := a
  obtain ⟨b1, b2⟩ := b
  rcases a2 with rfl | ⟨v, rfl⟩
  · rcases b2 with rfl | ⟨w, rfl⟩
    · rfl
    · have := a1 w; omega
  · rcases b2 with rfl | ⟨w, rfl⟩
    · have := b1 v; omega
    · have := a1 w; have := b1 v; omega
end


def pr_must_be_crossing (K : PySem.W.Frag) (v0 : V) (H : Hp) (Q : VK) (_ : XK) : Prop := ∃ (many : Int) (ps : List (Int × Int)), Dp K H v0 (.tuple [.int many, dPairs ps]) ∧ (0 ≤ many ∧ many ≤ 60 ∧ ps.length ≤ 60 ∧ ∀ p ∈ ps, 0 ≤ p.1 ∧ p.1 ≤ p.2 ∧ p.2 < many) ∧ Q .non H
def t_must_be_crossing (K : PySem.W.Frag) : TS :=
  (tSeq (tAsg (tVar 0) (gTup K 2 (gCons (gName 1) (gCons (gName 2) gNil))))
    (tSeq (tIfS (tOr (tTest (tOp xLt (tVar 1) (tC (.int 0)))) (tOr (tTest (tOp xGt (tVar 1) (tC (.int 60)))) (tTest (tOp xGt (tCB (rLenX K) (tCons (tVar 2) tNil)) (tC (.int 60)))))) tNever tNext)
    (tFor (iList K (tVar 2)) (gTup K 2 (gCons (gName 3) (gCons (gName 4) gNil)))
      (tIfS (tOr (tTest (tOp xLt (tVar 3) (tC (.int 0)))) (tOr (tTest (tOp xGt (tVar 3) (tVar 4))) (tTest (tOp xGe (tVar 4) (tVar 1))))) tNever tNext))))
theorem pure_must_be_crossing {v0 : V} {H : Hp} {Q : VK} {E : XK} (hh : pr_must_be_crossing K v0 H Q E) : t_must_be_crossing K ⟨fun _ H' => Q .non H', Q, fun _ _ => False, fun _ _ => False⟩ [some v0, none, none, none, none] H := by
  obtain ⟨many, ps, d0, ⟨k0, k1, k2, k3⟩, q⟩ := hh
  obtain ⟨a, x, y, rfl, hs, hx, hy⟩ := dp_tup2 d0
  obtain rfl := dp_int hx
  obtain ⟨b, ys, rfl, hb, hys⟩ := dp_list hy
  have ly : ys.length = ps.length := by rw [dpa_len hys, List.length_map]
  unfold t_must_be_crossing
  wtm_at "s"
  refine forL hb (fun i σ' H' => H' = H ∧ ∃ k3 k4, σ' = [some (.ref a), some (.int many), some (.ref b), k3, k4]) ⟨rfl, _, _, rfl⟩ (fun i σ' H' _ e => e.1 ▸ hb) ?_ (fun σ' H' ⟨e, _⟩ => e ▸ q)
  rintro i x σ' H' hxi ⟨rfl, k3', k4, rfl⟩
  obtain ⟨p, c, hp, rfl, hc⟩ := dpairs_get hys hxi
  obtain ⟨p1, p2, p3⟩ := k3 p (List.mem_of_getElem? hp)
  wtm_at "s"
  exact ⟨rfl, _, _, rfl⟩
abbrev sp_must_be_crossing (K : PySem.W.Frag) : Sp := fun vs H Q E => ∃ v0, vs = [v0] ∧ pr_must_be_crossing K v0 H Q E
theorem ok_must_be_crossing (T : Txt K mg A) : FnOk P w K mg base CX0 1 A.a_must_be_crossing A.d_must_be_crossing ["crossing"] (sp_must_be_crossing K) := by
  refine T.F_must_be_crossing.ok sc_must_be_crossing (fun vs H Q E h => by obtain ⟨v0, rfl, _⟩ := h; rfl) (fun cdv A0 outer s H vs Q E hr h => ?_)
  obtain ⟨v0, rfl, h⟩ := h
  exact ⟨t_must_be_crossing K, (pss_cons (ps_asg (pv 0) (pg_tup (by rfl) (pgs_cons (pg_name (i := 1) sc_must_be_crossing.nd rfl (Or.inl rfl)) (pgs_cons (pg_name (i := 2) sc_must_be_crossing.nd rfl (Or.inl rfl)) pgs_nil))))
      (pss_cons (ps_if (PW.pt (pw_or (pt_cmpR op_lt (pv 1) pe_int (nomark _)) (pw_or (pt_cmpR op_gt (pv 1) (pe_glob (v := .int 60) (by rfl) T.c_MOST_TIES ⟨_, rfl⟩) (nomark _)) (pw_or1 (pt_cmpR op_gt (pe_callB q_len (by rfl) T.z_len (by decide +kernel) (pa_cons (pv 2) pa_nil)) (pe_glob (v := .int 60) (by rfl) T.c_MOST_PAIRS ⟨_, rfl⟩) (nomark _)))))) (pss_one ps_never) pss_nil)
      (pss_one (ps_for PassesOwn.never rfl (pi_list (pv 2)) (pg_tup (by rfl) (pgs_cons (pg_name (i := 3) sc_must_be_crossing.nd rfl (Or.inl rfl)) (pgs_cons (pg_name (i := 4) sc_must_be_crossing.nd rfl (Or.inl rfl)) pgs_nil)))
      (pss_one (ps_if (PW.pt (pw_or (pt_cmpR op_lt (pv 3) pe_int (nomark _)) (pw_or (pt_cmpR op_gt (pv 3) (pv 4) (nomark _)) (pw_or1 (pt_cmpR op_ge (pv 4) (pv 1) (nomark _)))))) (pss_one ps_never) pss_nil)))))), pure_must_be_crossing h⟩
abbrev dCr (many : Int) (ps : List (Int × Int)) : PyData := .tuple [.int many, dPairs ps]
/-- a crossing -/
def CrOk (many : Int) (ps : List (Int × Int)) : Prop := 0 ≤ many ∧ many ≤ 60 ∧ ps.length ≤ 60 ∧ ∀ p ∈ ps, 0 ≤ p.1 ∧ p.1 ≤ p.2 ∧ p.2 < many
theorem dp_cr {H : Hp} {v : V} {many : Int} {ps : List (Int × Int)} (h : Dp K H v (dCr many ps)) : ∃ a b ys, v = .ref a ∧ SqT K H a [.int many, .ref b] ∧ SqL K H b ys ∧ DpAll K H ys (ps.map dPair) ∧ ys.length = ps.length := by
  obtain ⟨a, x, y, rfl, hs, hx, hy⟩ := dp_tup2 h
  obtain rfl := dp_int hx
  obtain ⟨b, ys, rfl, hb, hys⟩ := dp_list hy
  exact ⟨a, b, ys, rfl, hs, hb, hys, by rw [dpa_len hys, List.length_map]⟩
def pr_load_at (K : PySem.W.Frag) (v0 : V) (H : Hp) (Q : VK) (_ : XK) : Prop := ∃ (many : Int) (ps : List (Int × Int)), Dp K H v0 (dCr many ps) ∧ CrOk many ps ∧ ∀ L H', IsLoad ps L → Same H H' → Q (.int ((L : Nat) : Int)) H'
def t_load_at (K : PySem.W.Frag) : TS :=
  (tSeq (tAsg (tVar 0) (gTup K 2 (gCons (gName 1) (gCons (gName 2) gNil))))
    (tRet (tCB (rMax K) (tCons (tOp rCat (tLst (tCons (tC (.int 0)) tNil)) (tLc (iRng1 (tCons (tVar 1) tNil)) (gName 3) tYes (tCB (rLenX K) (tCons (tLc (iList K (tVar 2)) (gName 4) (tTest (tOp (rIn K false) (tVar 3) (tVar 4))) (tVar 4) [4]) tNil)) [3])) tNil))))
theorem deg_list (ps : List (Int × Int)) (v : Int) : ps.countP (fun p => decide (On p v)) = deg ps.length (Pj ps) v := by
  unfold deg
  have key : ∀ n, n ≤ ps.length → (ps.take n).countP (fun p => decide (On p v)) = (List.range n).countP fun j => decide (On (Pj ps j) v) := by
    intro n
    induction n with
    | zero => intro _; rfl
    | succ n ih =>
      intro h
      have e : ps[n]? = some (Pj ps n) := by
        show ps[n]? = some (ps.getD n (0, 0))
        rw [List.getD_eq_getElem?_getD, List.getElem?_eq_getElem (by omega)]; rfl
      rw [List.take_add_one, e, List.countP_append, ih (by omega), List.range_succ, List.countP_append]
      rfl
  have := key ps.length (Nat.le_refl _)
  rwa [List.take_length] at this
theorem deg_out {many : Int} {ps : List (Int × Int)} (ok : CrOk many ps) {v : Int} (h : v < 0 ∨ many ≤ v) : deg ps.length (Pj ps) v = 0 := by
  rw [← deg_list, List.countP_eq_zero]
  intro p hp
  have := ok.2.2.2 p hp
  simp only [decide_eq_true_eq]
  unfold On
  omega
theorem load_of {many : Int} {ps : List (Int × Int)} (ok : CrOk many ps) {L : Int} (h0 : L = 0 ∨ ∃ v : Nat, (v : Int) < many ∧ L = ((deg ps.length (Pj ps) (v : Int) : Nat) : Int)) (h1 : ∀ v : Nat, (v : Int) < many → ((deg ps.length (Pj ps) (v : Int) : Nat) : Int) ≤ L) (hz : 0 ≤ L) : ∃ N : Nat, L = N ∧ IsLoad ps N := by
  refine ⟨L.toNat, by omega, fun v => ?_, ?_⟩
  · by_cases c : v < 0 ∨ many ≤ v
    · rw [deg_out ok c]; omega
    · have := h1 v.toNat (by omega)
      rw [show ((v.toNat : Nat) : Int) = v by omega] at this
      omega
  · rcases h0 with h | ⟨v, _, h⟩
    · exact .inl (by omega)
    · exact .inr ⟨v, by omega⟩
theorem in_fm {ps : List (Int × Int)} {xs : List V} {v : Int} (hl : xs.length = ps.length) : ((ps.zip xs).filterMap fun q => if On q.1 v then some q.2 else none).length = deg ps.length (Pj ps) v := by
  rw [← deg_list]
  induction ps generalizing xs with
  | nil => simp
  | cons p r ih => cases xs with
    | nil => simp at hl
    | cons x xs =>
      rw [List.zip_cons_cons, List.filterMap_cons, List.countP_cons]
      have := ih (xs := xs) (by simpa using hl)
      by_cases c : On p v
      · simp only [c, if_true, decide_true]
        rw [List.length_cons, this]
      · simp only [c, if_false, decide_false]
        rw [this]; simp
theorem pure_load_at {v0 : V} {H : Hp} {Q : VK} {E : XK} (hh : pr_load_at K v0 H Q E) : t_load_at K ⟨fun _ H' => Q .non H', Q, fun _ _ => False, fun _ _ => False⟩ [some v0, none, none, none, none] H := by
  obtain ⟨many, ps, d0, ok, q⟩ := hh
  obtain ⟨a, b, ys, rfl, ha, hb, hys, ly⟩ := dp_cr d0
  obtain ⟨k0, k1, k2, k3⟩ := id ok
  unfold t_load_at
  wtm_at "s"
  refine kL (by simp) (fun z H1 nz s1 e1 => ?_)
  wtm_at "s"
  refine lc_growR (by omega) (fun i => some (V.int ((deg ps.length (Pj ps) ((i : Nat) : Int) : Nat) : Int))) ?_ (fun D H2 nD s2 eD => ?_)
  · intro i H' hi sm R R0 g1 g2
    have s' := s1.trans sm
    rw [Int.zero_add]
    have hb' := s'.seq hb
    wtm_at "s"
    refine lc_pure hb' (ps.zip ys) (by simp; omega) (by simp; omega) (fun q => if On q.1 (i : Int) then some q.2 else none) ?_ (fun D3 H3 nD3 s3 e3 => ?_)
    · intro j x p H'' hx hp sm2 R R0 h1 h2
      have hz := List.getElem?_zip_eq_some.mp hp
      obtain ⟨d, hd1, hd2⟩ := dpa_get hys hx
      rw [List.getElem?_map, hz.1] at hd1
      cases hd1
      obtain ⟨c, rfl, hc⟩ := dp_pair hd2
      have hc' := same_seqT (s'.trans sm2) hc
      have ep : p.2 = .ref c := by have := hz.2; rw [hx] at this; exact (Option.some.inj this).symm
      wtm_at "s"
      refine k_inT2 hc' ?_
      wtm_at "s"
      refine k_it (fun d => ?_) (fun d => ?_)
      · wtm_at "s"
        exact h1 _ (by rw [if_pos (by unfold On; omega), ep])
      · exact h2 (if_neg (by unfold On; omega))
    wtm_at "s"
    rw [in_fm ly]
    exact g1 _ _ rfl s3
  rw [fm_map] at eD
  have eD' : H2 D = some (.lst (((List.range many.toNat).map fun (i : Nat) => ((deg ps.length (Pj ps) ((i : Nat) : Int) : Nat) : Int)).map V.int)) := by rw [eD, List.map_map]; rfl
  refine k_catN (s2 _ _ e1) eD' (by simp; omega) (fun l H3 nl s3 e3 => ?_)
  have e3' : H3 l = some (.lst ((0 :: (List.range many.toNat).map fun (i : Nat) => ((deg ps.length (Pj ps) ((i : Nat) : Int) : Nat) : Int)).map V.int)) := e3
  wtm_at "s"
  refine k_max (sl e3') (by simp) (fun L h1 h2 => ?_)
  obtain ⟨N, rfl, hN⟩ := load_of ok (L := L) (by
    rcases List.mem_cons.mp h1 with h | h
    · exact .inl h
    · obtain ⟨v, hv, rfl⟩ := List.mem_map.mp h
      have := List.mem_range.mp hv
      exact .inr ⟨v, by omega, rfl⟩) (fun v hv => h2 _ (List.mem_cons_of_mem _ (List.mem_map.mpr ⟨v, List.mem_range.mpr (by omega), rfl⟩))) (h2 0 List.mem_cons_self)
  exact q N H3 hN (s1.trans (s2.trans s3))
abbrev sp_load_at (K : PySem.W.Frag) : Sp := fun vs H Q E => ∃ v0, vs = [v0] ∧ pr_load_at K v0 H Q E
theorem ok_load_at (T : Txt K mg A) : FnOk P w K mg base CX0 1 A.a_load_at A.d_load_at ["crossing"] (sp_load_at K) := by
  refine T.F_load_at.ok sc_load_at (fun vs H Q E h => by obtain ⟨v0, rfl, _⟩ := h; rfl) (fun cdv A0 outer s H vs Q E hr h => ?_)
  obtain ⟨v0, rfl, h⟩ := h
  exact ⟨t_load_at K, (pss_cons (ps_asg (pv 0) (pg_tup (by rfl) (pgs_cons (pg_name (i := 1) sc_load_at.nd rfl (Or.inl rfl)) (pgs_cons (pg_name (i := 2) sc_load_at.nd rfl (Or.inr rfl)) pgs_nil))))
      (pss_one (ps_ret (pe_callB (cr_max (by rfl)) (by rfl) T.z_max (by decide +kernel) (pa_cons (pe_op op_cat (pe_lst (pa_cons pe_int pa_nil)) (pe_lc (own := [("tie", 3)]) (by rfl) sc_load_at.nd (pi_range1 (by rfl) T.z_range (pa_cons (pv 1) pa_nil)) (blkOk_by (own := [("tie", 3)]) (N := ["crossing", "many", "pairs", "tie", "pair"]) (sc := defScope s_load_at) (by decide +kernel)) (fun _ _ _ _ _ => (pg_name (i := 3) sc_load_at.nd rfl (Or.inr rfl))) (fun _ _ _ _ _ => pts_nil) (fun _ _ _ _ _ => (pe_callB q_len (by rfl) T.z_len (by decide +kernel) (pa_cons (pe_lc (own := [("pair", 4)]) (by rfl) sc_load_at.nd (pi_list (pv 2)) (blkOk_by (own := [("pair", 4)]) (N := ["crossing", "many", "pairs", "tie", "pair"]) (sc := { kind := PySem.ScopeKind.function, names := [ (PySem.Str.ofString ".0", PySem.NameKind.local), (PySem.Str.ofString "tie", PySem.NameKind.cell), (PySem.Str.ofString "len", PySem.NameKind.globalImplicit), (PySem.Str.ofString "pairs", PySem.NameKind.cell)], isGenerator := false, isCoroutine := false, more := [] : PySem.Scope }) (by decide +kernel)) (fun _ _ _ _ _ => (pg_name (i := 4) sc_load_at.nd rfl (Or.inl rfl))) (fun _ _ _ _ _ => (pts_one (pt_cmpR op_in_seq (pv 3) (pv 4) (by rfl)))) (fun _ _ _ _ _ => (pv 4))) pa_nil))))) pa_nil))))), pure_load_at h⟩


def inLot (ns : List Int) (p : Int × Int) : Bool := decide (p.1 ≠ p.2 ∧ p.1 ∈ ns ∧ p.2 ∈ ns)
def within (ps : List (Int × Int)) (ns : List Int) : Nat := (ps.filter (inLot ns)).length
def bnd (ps : List (Int × Int)) (ns : List Int) : Int := ((within ps ns : Int) + (ns.length : Int) / 2 - 1) / ((ns.length : Int) / 2)
def pr_bound_of (K : PySem.W.Frag) (v0 v1 : V) (H : Hp) (Q : VK) (_ : XK) : Prop := ∃ n ps ns, Dp K H v0 (dCr n ps) ∧ Dp K H v1 (dInts ns) ∧ 2 ≤ ns.length ∧ ns.length ≤ 1000 ∧ ps.length ≤ 1000 ∧ ∀ H', Same H H' → Q (.int (bnd ps ns)) H'
def t_bound_of (K : PySem.W.Frag) : TS :=
  (tSeq (tAsg (tCB (rLenX K) (tCons (tLc (iList K (tOp (rIxT K) (tVar 0) (tC (.int 1)))) (gTup K 2 (gCons (gName 4) (gCons (gName 5) gNil))) (tAnd (tTest (tOp rNe (tVar 4) (tVar 5))) (tAnd (tTest (tOp (rIn K false) (tVar 4) (tVar 1))) (tTest (tOp (rIn K false) (tVar 5) (tVar 1))))) (tC (.int 1)) [4, 5]) tNil)) (gName 2))
    (tSeq (tAsg (tOp xDiv (tCB (rLenX K) (tCons (tVar 1) tNil)) (tC (.int 2))) (gName 3))
    (tRet (tOp xDiv (tOp xSub (tOp xAdd (tVar 2) (tVar 3)) (tC (.int 1))) (tVar 3)))))
theorem pure_bound_of {v0 v1 : V} {H : Hp} {Q : VK} {E : XK} (h : pr_bound_of K v0 v1 H Q E) : t_bound_of K ⟨fun _ H' => Q .non H', Q, fun _ _ => False, fun _ _ => False⟩ [some v0, some v1, none, none, none, none] H := by
  obtain ⟨n, ps, ns, hc, hn, hz0, hz, hz2, q⟩ := h
  obtain ⟨a, x, y, rfl, hs, hx, hy⟩ := dp_tup2 hc
  obtain rfl := dp_int hx
  obtain ⟨b, rfl, hb⟩ := dp_ints hn
  obtain ⟨c, xs, rfl, hcx, hxs⟩ := dp_list hy
  have hl := dpa_len hxs
  rw [List.length_map] at hl
  unfold t_bound_of
  wtm_at "s"
  refine lc_pure hcx ps hl (by omega) (fun p => if inLot ns p then some (.int 1) else none) ?_ ?_
  · intro i x p H' hx hp sm R R0 h1 h2
    obtain ⟨p', d, hp', rfl, hd⟩ := dpairs_get hxs hx
    rw [hp] at hp'
    cases hp'
    wtm_at "s"
    refine k_itn (fun c1 => ?_) (fun c1 => ?_)
    · wtm_at "s"
      refine k_it (fun c2 => ?_) (fun c2 => ?_)
      · wtm_at "s"
        refine k_it (fun c3 => ?_) (fun c3 => ?_)
        · wtm_at "s"
          exact h1 _ (if_pos (decide_eq_true ⟨c1, c2, c3⟩))
        · exact h2 (if_neg fun z => c3 (of_decide_eq_true z).2.2)
      · wtm_at "s"
        exact h2 (if_neg fun z => c2 (of_decide_eq_true z).2.1)
    · wtm_at "s"
      exact h2 (if_neg fun z => (of_decide_eq_true z).1 c1)
  intro D H1 nD sm hD
  have e1 : (ps.filterMap fun p => if inLot ns p then some (V.int 1) else none).length = within ps ns := by
    unfold within
    clear hD hl hxs hcx hy hc hz2 q
    induction ps with
    | nil => rfl
    | cons p r ih =>
      by_cases c : inLot ns p = true
      · rw [List.filterMap_cons, if_pos c, List.filter_cons, if_pos c]; simp [ih]
      · rw [List.filterMap_cons, if_neg c, List.filter_cons, if_neg c]; exact ih
  wtm_at "s"
  rw [e1]
  exact q _ sm
abbrev sp_bound_of (K : PySem.W.Frag) : Sp := fun vs H Q E => ∃ v0 v1, vs = [v0, v1] ∧ pr_bound_of K v0 v1 H Q E
theorem ok_bound_of (T : Txt K mg A) : FnOk P w K mg base CX0 1 A.a_bound_of A.d_bound_of ["crossing", "lot"] (sp_bound_of K) := by
  refine T.F_bound_of.ok sc_bound_of (fun vs H Q E h => by obtain ⟨v0, v1, rfl, _⟩ := h; rfl) (fun cdv A0 outer s H vs Q E hr h => ?_)
  obtain ⟨v0, v1, rfl, h⟩ := h
  exact ⟨t_bound_of K, (pss_cons (ps_set (i := 2) sc_bound_of.nd rfl (Or.inl rfl) (pe_callB q_len (by rfl) T.z_len (by decide +kernel) (pa_cons (pe_lc (own := [("s", 4), ("t", 5)]) (by rfl) sc_bound_of.nd (pi_list (pe_ix ix_tup (pv 0) pe_int (fun _ _ => rfl))) (blkOk_by (own := [("s", 4), ("t", 5)]) (N := ["crossing", "lot", "within", "half", "s", "t"]) (sc := defScope s_bound_of) (by decide +kernel)) (fun _ _ _ _ _ => (pg_tup (by rfl) (pgs_cons (pg_name (i := 4) sc_bound_of.nd rfl (Or.inl rfl)) (pgs_cons (pg_name (i := 5) sc_bound_of.nd rfl (Or.inl rfl)) pgs_nil)))) (fun _ _ _ _ _ => (pts_one (PW.pt (pw_and (pt_cmpR op_ne (pv 4) (pv 5) (nomark _)) (pw_and (pt_cmpR op_in_seq (pv 4) (pv 1) (by rfl)) (pw_and1 (pt_cmpR op_in_seq (pv 5) (pv 1) (by rfl)))))))) (fun _ _ _ _ _ => pe_int)) pa_nil)))
      (pss_cons (ps_set (i := 3) sc_bound_of.nd rfl (Or.inl rfl) (pe_op op_fdiv (pe_callB q_len (by rfl) T.z_len (by decide +kernel) (pa_cons (pv 1) pa_nil)) pe_int))
      (pss_one (ps_ret (pe_op op_fdiv (pe_op op_sub (pe_op op_add (pv 2) (pv 3)) pe_int) (pv 3)))))), pure_bound_of h⟩


/-- lists of numbers in the heap, new since some heap -/
def LsAt (H0 H : Hp) (ys : List V) (nss : List (List Int)) : Prop := ys.length = nss.length ∧ ∀ (i : Nat) v, ys[i]? = some v → ∃ c ns, v = .ref c ∧ nss[i]? = some ns ∧ H0 c = none ∧ H c = some (.lst (ns.map V.int))
section
variable {H0 H H' : Hp} {ys zs : List V} {nss mss : List (List Int)}
theorem LsAt.same (h : LsAt H0 H ys nss) (s : Same H H') : LsAt H0 H' ys nss := ⟨h.1, fun i v hv => by
  obtain ⟨c, ns, h1, h2, h3, h4⟩ := h.2 i v hv
  exact ⟨c, ns, h1, h2, h3, s _ _ h4⟩⟩
theorem LsAt.ago {H1 : Hp} (h : LsAt H1 H ys nss) (s : Same H0 H1) : LsAt H0 H ys nss := ⟨h.1, fun i v hv => by
  obtain ⟨c, ns, h1, h2, h3, h4⟩ := h.2 i v hv
  exact ⟨c, ns, h1, h2, s.free h3, h4⟩⟩
theorem LsAt.nil : LsAt H0 H [] [] := ⟨rfl, fun i v hv => by simp at hv⟩
theorem LsAt.app (h : LsAt H0 H ys nss) (h' : LsAt H0 H zs mss) : LsAt H0 H (ys ++ zs) (nss ++ mss) := by
  refine ⟨by rw [List.length_append, List.length_append, h.1, h'.1], fun i v hv => ?_⟩
  by_cases c : i < ys.length
  · rw [List.getElem?_append_left c] at hv
    rw [List.getElem?_append_left (by rw [← h.1]; exact c)]
    exact h.2 i v hv
  · rw [List.getElem?_append_right (by omega)] at hv
    rw [List.getElem?_append_right (by rw [← h.1]; omega), ← h.1]
    exact h'.2 _ v hv
theorem LsAt.one {c : Addr} {ns : List Int} (h0 : H0 c = none) (h : H c = some (.lst (ns.map V.int))) : LsAt H0 H [.ref c] [ns] := ⟨rfl, fun i v hv => by
  cases i with
  | zero => cases hv; exact ⟨c, ns, rfl, rfl, h0, h⟩
  | succ i => simp at hv⟩
end
/-- a comprehension over a list, each turn gives a new list of numbers -/
theorem lc_ls {σ : L2.St} {vs : List Nat} {g : TG} {te : TE} {H1 : Hp} {QD : Addr → Hp → Prop} {α : Type} {a : Addr} {xs : List V} (S0 : List Addr) (hS : ∀ b ∈ S0, H1 b ≠ none) (hs : SqL K H1 a xs) (ps : List α) (hl : xs.length = ps.length) (hz : ps.length ≤ 50000) (F : α → List Int)
    (step : ∀ (i : Nat) x p H', xs[i]? = some x → ps[i]? = some p → Same H1 H' → ∀ (R : V → Hp → Prop), (∀ c H'', H' c = none → Same H' H'' → H'' c = some (.lst ((F p).map V.int)) → R (.ref c) H'') →
      g x (wipe σ vs) H' fun σ2 H2 => wipe σ2 vs = wipe σ vs ∧ te σ2 H2 R)
    (h : ∀ D ys H', H1 D = none → Same H1 H' → H' D = some (.lst ys) → LsAt H1 (hid (D :: S0) H') ys (ps.map F) → QD D H') (hg : ∀ x σ' H (q q' : L2.St → Hp → Prop), (∀ s H, q s H → q' s H) → g x σ' H q → g x σ' H q') :
    ∃ a', V.ref a = .ref a' ∧ (∃ xs, SqL K H1 a' xs) ∧ ∀ D, H1 D = none → ∃ W : Nat → Nat → Hp → Prop, (∃ m, W 0 m (upd H1 D (.lst []))) ∧ ∀ i m H, W i m H →
      ((Itl K a').stop i H ∧ QD D H) ∨ ((Itl K a').go i H ∧ ∃ Nx : Hp → Prop, (∀ H', Nx H' → ∃ m', m' < m ∧ W (i + 1) m' H') ∧ ∀ x H', (Itl K a').yld i H x H' → g x (wipe σ vs) H' fun σ2 H2 => wipe σ2 vs = wipe σ vs ∧ tYes σ2 H2 fun b H3 =>
        if b = true then te σ2 H3 fun y H4 => ∃ acc, H4 D = some (.lst acc) ∧ acc.length < sizeLine ∧ Nx (upd H4 D (.lst (acc ++ [y]))) else Nx H3) := by
  refine ⟨a, rfl, ⟨xs, hs⟩, fun D nD => lc_list (xs := xs) (fun i H => Same H1 H ∧ ∃ ys, H D = some (.lst ys) ∧ ys.length = i ∧ LsAt H1 (hid (D :: S0) H) ys ((ps.take i).map F)) ⟨same_new nD, [], upd_same, rfl, LsAt.nil⟩ (fun i H _ e => e.1.seq hs) ?_ ?_⟩
  · rintro i x H hx ⟨sm, ys, hD, hly, hys⟩
    have hi : i < xs.length := (List.getElem?_eq_some_iff.mp hx).1
    obtain ⟨p, hp⟩ : ∃ p, ps[i]? = some p := ⟨ps[i]'(by omega), List.getElem?_eq_getElem (by omega)⟩
    refine hg _ _ _ _ _ (fun s2 H2 hh => ⟨hh.1, k_yes (iteT hh.2)⟩) (step i x p H hx hp sm _ (fun y H'' ny s2 ey => ⟨ys, s2 _ _ hD, szl (by omega), same_mut (sm.trans s2) nD, ys ++ [.ref y], upd_same, by simp [hly], ?_⟩))
    rw [hid_upd (by simp), List.take_add_one, hp, List.map_append]
    refine (hys.same (hid_mono s2)).app (LsAt.one (sm.free ny) ?_)
    rw [hid_ne (fun z => by
      rcases List.mem_cons.mp z with e | hb
      · rw [e, hD] at ny; cases ny
      · exact hS y hb (sm.free ny))]
    exact ey
  · rintro H ⟨sm, ys, hD, hly, hys⟩
    rw [hl, List.take_length] at hys
    exact h D ys H nD sm hD hys
def lotsF (m : Int) : Nat → Int → List (List Int)
  | 0, _ => [[]]
  | s + 1, l => (List.range (m - l).toNat).flatMap fun (j : Nat) => (lotsF m s (l + (j : Int) + 1)).map fun r => (l + (j : Int)) :: r
theorem fm_pow {α : Type} {f : Nat → List α} {N : Nat} (h : ∀ j, j < N → (f j).length ≤ 2 ^ (N - 1 - j)) : ∀ i, i ≤ N → ((List.range i).flatMap f).length + 2 ^ (N - i) ≤ 2 ^ N
  | 0, _ => by simp
  | i + 1, hi => by
    have ih := fm_pow h i (by omega)
    have hf := h i (by omega)
    rw [List.range_succ, List.flatMap_append, List.length_append]
    have e : ([i].flatMap f).length = (f i).length := by simp
    have e2 : N - i = (N - (i + 1)) + 1 := by omega
    have e3 : N - 1 - i = N - (i + 1) := by omega
    rw [e2, Nat.pow_succ] at ih
    rw [e3] at hf
    omega
theorem lotsF_len (m : Int) : ∀ (s : Nat) (l : Int), (lotsF m s l).length ≤ 2 ^ (m - l).toNat
  | 0, l => Nat.one_le_two_pow
  | s + 1, l => by
    have := fm_pow (N := (m - l).toNat) (f := fun (j : Nat) => (lotsF m s (l + (j : Int) + 1)).map fun r => (l + (j : Int)) :: r) (fun j hj => by
      rw [List.length_map]
      have := lotsF_len m s (l + (j : Int) + 1)
      have e : (m - (l + (j : Int) + 1)).toNat = (m - l).toNat - 1 - j := by omega
      rwa [e] at this) _ (Nat.le_refl _)
    exact Nat.le_trans (Nat.le_add_right _ _) this
theorem lotsF_len12 {m l : Int} {s : Nat} (h : m ≤ 12) (h0 : 0 ≤ l) : (lotsF m s l).length ≤ 4096 := by
  have h1 := lotsF_len m s l
  have h2 : 2 ^ (m - l).toNat ≤ 2 ^ 12 := Nat.pow_le_pow_right (by omega) (by omega)
  omega
/-- what the lots are -/
theorem lotsF_ok {m : Int} : ∀ {s : Nat} {l : Int} {ns : List Int}, ns ∈ lotsF m s l → ns.length = s ∧ (∀ x ∈ ns, l ≤ x ∧ x < m) ∧ ns.Pairwise (· < ·)
  | 0, l, ns, h => by
    have : ns = [] := by simpa [lotsF] using h
    subst this
    exact ⟨rfl, (fun x z => by cases z), List.Pairwise.nil⟩
  | s + 1, l, ns, h => by
    obtain ⟨j, hj, h2⟩ := List.mem_flatMap.mp h
    obtain ⟨r, hr, rfl⟩ := List.mem_map.mp h2
    have hj' := List.mem_range.mp hj
    obtain ⟨h3, h4, h5⟩ := lotsF_ok hr
    refine ⟨by simp [h3], fun x hx => ?_, List.pairwise_cons.mpr ⟨fun x hx => ?_, h5⟩⟩
    · rcases List.mem_cons.mp hx with rfl | hx
      · omega
      · have := h4 x hx; omega
    · have := h4 x hx; omega
def pr_lots_of (K : PySem.W.Frag) (d : Nat) (v0 v1 v2 : V) (H : Hp) (Q : VK) (_ : XK) : Prop := ∃ (m : Int) (s : Nat) (l : Int) (S : List Addr), v0 = .int m ∧ v1 = .int s ∧ v2 = .int l ∧ s ≤ d ∧ s ≤ 13 ∧ 0 ≤ l ∧ m ≤ 12 ∧ -100 ≤ m ∧ l ≤ 1000 ∧ (∀ x ∈ S, H x ≠ none) ∧
  ∀ p ys H', H p = none → Same H H' → hid S H' p = some (.lst ys) → LsAt H (hid S H') ys (lotsF m s l) → Q (.ref p) H'
def spd_lots_of (K : PySem.W.Frag) : Nat → Sp
  | 0 => fun _ _ _ _ => False
  | d + 1 => fun vs H Q E => ∃ v0 v1 v2, vs = [v0, v1, v2] ∧ pr_lots_of K d v0 v1 v2 H Q E
def t_lots_of (K : PySem.W.Frag) (sp : Sp) : TS :=
  (tSeq (tIfS (tTest (tOp rEq (tVar 1) (tC (.int 0)))) (tRet (tLst (tCons (tLst tNil) tNil))) tNext)
    (tSeq (tAsg (tLst tNil) (gName 3))
    (tSeq (tFor (iRng2 (tCons (tVar 2) (tCons (tVar 0) tNil))) (gName 4)
      (tAsg (tOp rCat (tVar 3) (tLc (iList K (tCall sp [] E0 (tCons (tVar 0) (tCons (tOp xSub (tVar 1) (tC (.int 1))) (tCons (tOp xAdd (tVar 4) (tC (.int 1))) tNil))))) (gName 5) tYes (tOp rCat (tLst (tCons (tVar 4) tNil)) (tVar 5)) [5])) (gName 3)))
    (tRet (tVar 3)))))
theorem pure_lots_of {d : Nat} {v0 v1 v2 : V} {H : Hp} {Q : VK} {E : XK} (hh : pr_lots_of K d v0 v1 v2 H Q E) : t_lots_of K (spd_lots_of K d) ⟨fun _ H' => Q .non H', Q, fun _ _ => False, fun _ _ => False⟩ [some v0, some v1, some v2, none, none, none] H := by
  obtain ⟨m, s, l, S, rfl, rfl, rfl, hs, s13, l0, m12, m0, l1, hS, q⟩ := hh
  have fS : ∀ {H1 : Hp} {p : Addr}, Same H H1 → H1 p = none → p ∉ S := fun s np z => hS _ z (s.free np)
  unfold t_lots_of
  cases s with
  | zero =>
    wtm_at "s"
    refine kL (by simp) (fun c H1 nc s1 e1 => ?_)
    wtm_at "s"
    refine kL (by simp) (fun D H2 nD s2 e2 => ?_)
    refine q D [.ref c] H2 (s1.free nD) (s1.trans s2) (by rw [hid_ne (fS s1 nD)]; exact e2) (LsAt.one nc (ns := []) ?_)
    rw [hid_ne (fS (Same.refl _) nc)]
    exact s2 _ _ e1
  | succ s =>
    obtain ⟨d, rfl⟩ : ∃ d', d = d' + 1 := ⟨d - 1, by omega⟩
    wtm_at "s"
    refine kL (by simp) (fun D0 H1 nD0 s1 e1 => ?_)
    wtm_at "s"
    refine forR (fun i σ' H' => Same H H' ∧ ∃ D ys k4 k5, σ' = [some (.int m), some (.int ((s + 1 : Nat) : Int)), some (.int l), some (.ref D), k4, k5] ∧ H D = none ∧ H' D = some (.lst ys) ∧ LsAt H (hid S H') ys ((List.range i).flatMap fun (j : Nat) => (lotsF m s (l + (j : Int) + 1)).map fun r => (l + (j : Int)) :: r)) ⟨s1, D0, [], _, _, rfl, nD0, e1, LsAt.nil⟩ ?_ ?_
    · rintro i σ' H2 hi ⟨s2, D, ys, k4, k5, rfl, nD, e2, ls⟩
      have hp := fm_pow (N := (m - l).toNat) (f := fun (j : Nat) => (lotsF m s (l + (j : Int) + 1)).map fun r => (l + (j : Int)) :: r) (fun j hj => by
        rw [List.length_map]
        have := lotsF_len m s (l + (j : Int) + 1)
        have e : (m - (l + (j : Int) + 1)).toNat = (m - l).toNat - 1 - j := by omega
        rwa [e] at this) i (by omega)
      have hp2 : 2 ^ (m - l).toNat ≤ 2 ^ 12 := Nat.pow_le_pow_right (by omega) (by omega)
      have ly := ls.1
      have ly2 : ys.length ≤ 4096 := by rw [ly]; exact Nat.le_trans (Nat.le_trans (Nat.le_add_right _ _) hp) hp2
      clear hp hp2
      have lf : (lotsF m s (l + (i : Int) + 1)).length ≤ 4096 := lotsF_len12 m12 (by omega)
      wtm_at "s"
      refine ⟨_, _, _, rfl, m, s, l + (i : Nat) + 1, S, rfl, by congr 1; omega, rfl, by omega, by omega, by omega, m12, m0, by omega, (fun x hx z => hS x hx (s2.free z)), fun p zs H3 np s3 e3 ls3 => ?_⟩
      have hz3 := ls3.1
      wtm_at "s"
      refine lc_ls S (fun x hx z => hS x hx ((s2.trans s3).free z)) (sl (hid_same _ _ _ _ e3)) (lotsF m s (l + (i : Int) + 1)) hz3 (by omega) (fun r => (l + (i : Int)) :: r) ?_ (fun D2 us H4 nD2 s4 e4 ls4 => ?_) (fun x σ' H q q' h hh => h _ _ hh)
      · intro j x r H' hx hr sm R g1
        obtain ⟨c, ns, rfl, h2, h3, h4⟩ := ls3.2 j x hx
        rw [hr] at h2
        cases h2
        wtm_at "s"
        refine kL (by simp) (fun l1 H5 nl1 s5 e5 => ?_)
        have lr := (lotsF_ok (List.mem_of_getElem? hr)).1
        wtm_at "s"
        refine k_catN e5 ((sm.trans s5) _ _ (hid_same _ _ _ _ h4)) (by simp; omega) (fun l2 H6 nl2 s6 e6 => ?_)
        exact g1 l2 H6 (s5.free nl2) (s5.trans s6) e6
      have lu := ls4.1
      rw [List.length_map] at lu
      refine k_catN ((s3.trans s4) _ _ e2) e4 (by omega) (fun D3 H5 nD3 s5 e5 => ?_)
      wtm_at "s"
      refine ⟨s2.trans (s3.trans (s4.trans s5)), D3, _, _, _, rfl, (s2.trans (s3.trans s4)).free nD3, e5, ?_⟩
      rw [List.range_succ, List.flatMap_append]
      refine (ls.same (hid_mono (s3.trans (s4.trans s5)))).app ?_
      have := (ls4.ago (s2.trans s3)).same ((hid_sub (S' := D2 :: S) (S := S) fun x hx => List.mem_cons_of_mem _ hx).trans (hid_mono s5))
      simpa using this
    · rintro σ' H2 ⟨s2, D, ys, k4, k5, rfl, nD, e2, ls⟩
      wtm_at "s"
      exact q D ys H2 nD s2 (by rw [hid_ne (fS (Same.refl _) nD)]; exact e2) ls
theorem okd_lots_of (T : Txt K mg A) : ∀ d : Nat, FnOk P w K mg base CX0 (1 + d) A.a_lots_of A.d_lots_of ["many", "size", "least"] (spd_lots_of K d)
  | 0 => T.F_lots_of.ok sc_lots_of (fun vs H Q E h => False.elim h) (fun cdv A0 outer s H vs Q E hr h => False.elim h)
  | d + 1 => by
    refine T.F_lots_of.ok sc_lots_of (fun vs H Q E h => by obtain ⟨v0, v1, v2, rfl, _⟩ := h; rfl) (fun cdv A0 outer s H vs Q E hr h => ?_)
    obtain ⟨v0, v1, v2, rfl, h⟩ := h
    exact ⟨t_lots_of K (spd_lots_of K d), (pss_cons (ps_if (pt_cmpR op_eq (pv 1) pe_int (nomark _)) (pss_one (ps_ret (pe_lst (pa_cons (pe_lst pa_nil) pa_nil)))) pss_nil)
      (pss_cons (ps_set (i := 3) sc_lots_of.nd rfl (Or.inl rfl) (pe_lst pa_nil))
      (pss_cons (ps_for PassesOwn.never rfl (pi_range2 (by rfl) T.z_range (pa_cons (pv 2) (pa_cons (pv 0) pa_nil))) (pg_name (i := 4) sc_lots_of.nd rfl (Or.inr rfl))
      (pss_one (ps_set (i := 3) sc_lots_of.nd rfl (Or.inl rfl) (pe_op op_cat (pv 3) (pe_lc (own := [("rest", 5)]) (by rfl) sc_lots_of.nd (pi_list (pe_call (okd_lots_of T d) (hr.mono (by first | decide | omega | (simp only [Nat.add_eq]; omega))) (by rfl) T.g_lots_of T.F_lots_of.kp T.b_lots_of .nil pass0 (pa_cons (pv 0) (pa_cons (pe_op op_sub (pv 1) pe_int) (pa_cons (pe_op op_add (pv 4) pe_int) pa_nil))))) (blkOk_by (own := [("rest", 5)]) (N := ["many", "size", "least", "found", "tie", "rest"]) (sc := defScope s_lots_of) (by decide +kernel)) (fun _ _ _ _ _ => (pg_name (i := 5) sc_lots_of.nd rfl (Or.inl rfl))) (fun _ _ _ _ _ => pts_nil) (fun _ _ _ _ _ => (pe_op op_cat (pe_lst (pa_cons (pv 4) pa_nil)) (pv 5))))))))
      (pss_one (ps_ret (pv 3)))))), pure_lots_of h⟩
abbrev sp_lots_of (K : PySem.W.Frag) : Sp := fun vs H Q E => ∃ v0 v1 v2, vs = [v0, v1, v2] ∧ ∃ d : Nat, d < 13 ∧ pr_lots_of K d v0 v1 v2 H Q E
theorem ok_lots_of (T : Txt K mg A) : FnOk P w K mg base CX0 14 A.a_lots_of A.d_lots_of ["many", "size", "least"] (sp_lots_of K) := by
  refine T.F_lots_of.ok sc_lots_of (fun vs H Q E h => by obtain ⟨v0, v1, v2, rfl, _⟩ := h; rfl) (fun cdv A0 outer s H vs Q E hr h => ?_)
  obtain ⟨v0, v1, v2, rfl, d, hd, h⟩ := h
  exact ⟨t_lots_of K (spd_lots_of K d), (pss_cons (ps_if (pt_cmpR op_eq (pv 1) pe_int (nomark _)) (pss_one (ps_ret (pe_lst (pa_cons (pe_lst pa_nil) pa_nil)))) pss_nil)
      (pss_cons (ps_set (i := 3) sc_lots_of.nd rfl (Or.inl rfl) (pe_lst pa_nil))
      (pss_cons (ps_for PassesOwn.never rfl (pi_range2 (by rfl) T.z_range (pa_cons (pv 2) (pa_cons (pv 0) pa_nil))) (pg_name (i := 4) sc_lots_of.nd rfl (Or.inr rfl))
      (pss_one (ps_set (i := 3) sc_lots_of.nd rfl (Or.inl rfl) (pe_op op_cat (pv 3) (pe_lc (own := [("rest", 5)]) (by rfl) sc_lots_of.nd (pi_list (pe_call (okd_lots_of T d) (hr.mono (by first | decide | omega | (simp only [Nat.add_eq]; omega))) (by rfl) T.g_lots_of T.F_lots_of.kp T.b_lots_of .nil pass0 (pa_cons (pv 0) (pa_cons (pe_op op_sub (pv 1) pe_int) (pa_cons (pe_op op_add (pv 4) pe_int) pa_nil))))) (blkOk_by (own := [("rest", 5)]) (N := ["many", "size", "least", "found", "tie", "rest"]) (sc := defScope s_lots_of) (by decide +kernel)) (fun _ _ _ _ _ => (pg_name (i := 5) sc_lots_of.nd rfl (Or.inl rfl))) (fun _ _ _ _ _ => pts_nil) (fun _ _ _ _ _ => (pe_op op_cat (pe_lst (pa_cons (pv 4) pa_nil)) (pv 5))))))))
      (pss_one (ps_ret (pv 3)))))), pure_lots_of h⟩


def bestStep (ps : List (Int × Int)) (b : Int × List Int) (lot : List Int) : Int × List Int := if bnd ps lot > b.1 then (bnd ps lot, lot) else b
def bestF (m : Int) (ps : List (Int × Int)) (L : Int) : Int × List Int := (List.range ((m - 1) / 2).toNat).foldl (fun b (i : Nat) => (lotsF m (3 + 2 * i) 0).foldl (bestStep ps) b) (L, [])
theorem rg3 {j : Int} (h0 : 1 ≤ j) (h1 : j ≤ 13) : RgC 3 j 2 ((j - 2) / 2).toNat := by
  have : j = 1 ∨ j = 2 ∨ j = 3 ∨ j = 4 ∨ j = 5 ∨ j = 6 ∨ j = 7 ∨ j = 8 ∨ j = 9 ∨ j = 10 ∨ j = 11 ∨ j = 12 ∨ j = 13 := by omega
  rcases this with rfl | rfl | rfl | rfl | rfl | rfl | rfl | rfl | rfl | rfl | rfl | rfl | rfl <;> exact ⟨by decide, by decide, by decide, by decide⟩
def pr_best_lot (K : PySem.W.Frag) (v0 : V) (H : Hp) (Q : VK) (_ : XK) : Prop := ∃ (many : Int) (ps : List (Int × Int)) (S : List Addr), Dp K H v0 (dCr many ps) ∧ CrOk many ps ∧ many ≤ 12 ∧ (∀ x ∈ S, H x ≠ none) ∧
  ∀ (L : Nat) p b c H', IsLoad ps L → Same H H' → H c = none → hid S H' p = some (.tup [.int b.1, .ref c]) → hid S H' c = some (.lst (b.2.map V.int)) → b = bestF many ps L → Q (.ref p) H'
def t_best_lot (K : PySem.W.Frag) : TS :=
  (tSeq (tDrop (tCall (sp_must_be_crossing K) [] E0 (tCons (tVar 0) tNil)))
    (tSeq (tIfS (tTest (tOp xGt (tOp (rIxT K) (tVar 0) (tC (.int 0))) (tC (.int 12)))) tNever tNext)
    (tSeq (tAsg (tTup (tCons (tCall (sp_load_at K) [] E0 (tCons (tVar 0) tNil)) (tCons (tLst tNil) tNil))) (gName 1))
    (tSeq (tFor (iRng3 (tCons (tC (.int 3)) (tCons (tOp xAdd (tOp (rIxT K) (tVar 0) (tC (.int 0))) (tC (.int 1))) (tCons (tC (.int 2)) tNil)))) (gName 2)
      (tFor (iList K (tCall (sp_lots_of K) [] E0 (tCons (tOp (rIxT K) (tVar 0) (tC (.int 0))) (tCons (tVar 2) (tCons (tC (.int 0)) tNil))))) (gName 3)
      (tIfS (tTest (tOp xGt (tCall (sp_bound_of K) [] E0 (tCons (tVar 0) (tCons (tVar 3) tNil))) (tOp (rIxT K) (tVar 1) (tC (.int 0))))) (tAsg (tTup (tCons (tCall (sp_bound_of K) [] E0 (tCons (tVar 0) (tCons (tVar 3) tNil))) (tCons (tVar 3) tNil))) (gName 1)) tNext)))
    (tRet (tVar 1))))))
theorem pure_best_lot {v0 : V} {H : Hp} {Q : VK} {E : XK} (hh : pr_best_lot K v0 H Q E) : t_best_lot K ⟨fun _ H' => Q .non H', Q, fun _ _ => False, fun _ _ => False⟩ [some v0, none, none, none] H := by
  obtain ⟨many, ps, S, hd, ok, m12, hS, q⟩ := hh
  obtain ⟨a, b, ys, rfl, ha, hb, dys, ly⟩ := dp_cr hd
  have m0 := ok.1
  have l60 := ok.2.2.1
  have fS : ∀ {H1 : Hp} {p : Addr}, Same H H1 → H1 p = none → p ∉ S := fun s np z => hS _ z (s.free np)
  unfold t_best_lot
  wtm_at "s"
  refine ⟨_, rfl, many, ps, hd, ok, ?_⟩
  wtm_at "s"
  refine ⟨_, rfl, many, ps, hd, ok, fun L H1 hL s1 => ?_⟩
  have ha1 := same_seqT s1 ha
  wtm_at "s"
  refine kL (by simp) (fun c0 H2 nc0 s2 e2 => ?_)
  wtm_at "s"
  refine kT (by simp) (fun p0 H3 np0 s3 e3 => ?_)
  have ha3 := same_seqT (s2.trans s3) ha1
  wtm_at "s"
  refine ⟨_, _, _, _, rfl, rg3 (by omega) (by omega), ?_⟩
  rw [show (many + 1 - 2) / 2 = (many - 1) / 2 from by congr 1; omega]
  refine forC (fun i σ' H' => ∃ p c bs k2 k3, σ' = [some (.ref a), some (.ref p), k2, k3] ∧ Same H H' ∧ H c = none ∧ hid S H' p = some (.tup [.int bs.1, .ref c]) ∧ hid S H' c = some (.lst (bs.2.map V.int)) ∧ bs = (List.range i).foldl (fun b (i : Nat) => (lotsF many (3 + 2 * i) 0).foldl (bestStep ps) b) ((L : Int), [])) ⟨p0, c0, (L, []), _, _, rfl, s1.trans (s2.trans s3), s1.free nc0, ?_, ?_, rfl⟩ ?_ ?_
  · rw [hid_ne (fS (s1.trans s2) np0)]; exact e3
  · rw [hid_ne (fS s1 nc0)]; exact s3 _ _ e2
  · clear e3 e2 nc0 np0 s2 s3 ha1 ha3
    rintro i σ' H4 hi ⟨p, c, bs, k2, k3, rfl, s4, nc, ep, ec, eb⟩
    have ha4 := same_seqT s4 ha
    wtm_at "s"
    refine ⟨_, _, _, rfl, 3 + 2 * i, by omega, many, 3 + 2 * i, 0, S, rfl, by congr 1; omega, rfl, by omega, by omega, by omega, m12, by omega, by omega, (fun x hx z => hS x hx (s4.free z)), fun D us H5 nD s5 e5 ls => ?_⟩
    have hz := ls.1
    have lz : (lotsF many (3 + 2 * i) 0).length ≤ 4096 := lotsF_len12 m12 (by omega)
    wtm_at "s"
    refine forL (sl (hid_same _ _ _ _ e5)) (fun j σ' H' => ∃ p c bs k3, σ' = [some (.ref a), some (.ref p), some (.int (3 + (i : Nat) * 2)), k3] ∧ Same H5 H' ∧ H c = none ∧ hid S H' p = some (.tup [.int bs.1, .ref c]) ∧ hid S H' c = some (.lst (bs.2.map V.int)) ∧ bs = ((lotsF many (3 + 2 * i) 0).take j).foldl (bestStep ps) ((List.range i).foldl (fun b (i : Nat) => (lotsF many (3 + 2 * i) 0).foldl (bestStep ps) b) ((L : Int), []))) ⟨p, c, bs, _, rfl, Same.refl _, nc, hid_mono s5 _ _ ep, hid_mono s5 _ _ ec, eb⟩ (fun j σ' H' _ z => by
      obtain ⟨_, _, _, _, _, s, _⟩ := z
      exact sl (s _ _ (hid_same _ _ _ _ e5))) ?_ ?_
    · clear ep ec nc eb p c bs
      rintro j x σ' H6 hx ⟨p, c, bs, k3, rfl, s6, nc, ep, ec, eb⟩
      obtain ⟨cl, ns, rfl, hns, ncl, hcl⟩ := ls.2 j x hx
      have lns := (lotsF_ok (List.mem_of_getElem? hns)).1
      have s06 := s4.trans (s5.trans s6)
      have hc6 : hid S H6 cl = some (.lst (ns.map V.int)) := hid_mono s6 _ _ hcl
      wtm_at "s"
      refine ⟨_, _, rfl, many, ps, ns, dp_same s06 hd, dp_of_ints (sl (hid_same _ _ _ _ hc6)), by omega, by omega, by omega, fun H7 s7 => ?_⟩
      have hp7 : SqT K H7 p _ := stp (s7 _ _ (hid_same _ _ _ _ ep))
      wtm_at "s"
      have e1 : (lotsF many (3 + 2 * i) 0).take (j + 1) = (lotsF many (3 + 2 * i) 0).take j ++ [ns] := by rw [List.take_add_one, hns]; rfl
      rw [e1, List.foldl_append, ← eb]
      show if _ then _ else _
      by_cases cc : bnd ps ns > bs.1
      · rw [if_pos (by simpa using cc)]
        wtm_at "s"
        refine ⟨_, _, rfl, many, ps, ns, dp_same (s06.trans s7) hd, dp_of_ints (sl (s7 _ _ (hid_same _ _ _ _ hc6))), by omega, by omega, by omega, fun H8 s8 => ?_⟩
        wtm_at "s"
        refine kT (by simp) (fun p2 H9 np2 s9 e9 => ?_)
        wtm_at "s"
        refine ⟨p2, cl, (bnd ps ns, ns), _, rfl, s6.trans (s7.trans (s8.trans s9)), (s4).free ncl, ?_, hid_mono (s7.trans (s8.trans s9)) _ _ hc6, ?_⟩
        · rw [hid_ne (fS (s06.trans (s7.trans s8)) np2)]; exact e9
        · show _ = bestStep ps bs ns
          unfold bestStep
          rw [if_pos cc]
      · rw [if_neg (by simpa using cc)]
        wtm_at "s"
        refine ⟨p, c, bs, _, rfl, s6.trans s7, nc, hid_mono s7 _ _ ep, hid_mono s7 _ _ ec, ?_⟩
        show _ = bestStep ps bs ns
        unfold bestStep
        rw [if_neg cc]
    · rintro σ' H6 ⟨p, c, bs, k3, rfl, s6, nc, ep, ec, eb⟩
      refine ⟨p, c, bs, _, _, rfl, s4.trans (s5.trans s6), nc, ep, ec, ?_⟩
      rw [eb, hz, List.take_length, List.range_succ, List.foldl_append]
      rfl
  · rintro σ' H4 ⟨p, c, bs, k2, k3, rfl, s4, nc, ep, ec, eb⟩
    wtm_at "s"
    exact q L p bs c H4 hL s4 nc ep ec eb
abbrev sp_best_lot (K : PySem.W.Frag) : Sp := fun vs H Q E => ∃ v0, vs = [v0] ∧ pr_best_lot K v0 H Q E
theorem ok_best_lot (T : Txt K mg A) : FnOk P w K mg base CX0 15 A.a_best_lot A.d_best_lot ["crossing"] (sp_best_lot K) := by
  refine T.F_best_lot.ok sc_best_lot (fun vs H Q E h => by obtain ⟨v0, rfl, _⟩ := h; rfl) (fun cdv A0 outer s H vs Q E hr h => ?_)
  obtain ⟨v0, rfl, h⟩ := h
  exact ⟨t_best_lot K, (pss_cons (ps_expr (pe_call (ok_must_be_crossing T) (hr.mono (by decide)) (by rfl) T.g_must_be_crossing T.F_must_be_crossing.kp T.b_must_be_crossing .nil pass0 (pa_cons (pv 0) pa_nil)))
      (pss_cons (ps_if (pt_cmpR op_gt (pe_ix ix_tup (pv 0) pe_int (fun _ _ => rfl)) (pe_glob (v := .int 12) (by rfl) T.c_MOST_LOTS ⟨_, rfl⟩) (nomark _)) (pss_one ps_never) pss_nil)
      (pss_cons (ps_set (i := 1) sc_best_lot.nd rfl (Or.inl rfl) (pe_tup (pa_cons (pe_call (ok_load_at T) (hr.mono (by decide)) (by rfl) T.g_load_at T.F_load_at.kp T.b_load_at .nil pass0 (pa_cons (pv 0) pa_nil)) (pa_cons (pe_lst pa_nil) pa_nil))))
      (pss_cons (ps_for PassesOwn.never rfl (pi_range3 (by rfl) T.z_range (pa_cons pe_int (pa_cons (pe_op op_add (pe_ix ix_tup (pv 0) pe_int (fun _ _ => rfl)) pe_int) (pa_cons pe_int pa_nil)))) (pg_name (i := 2) sc_best_lot.nd rfl (Or.inl rfl))
      (pss_one (ps_for PassesOwn.never rfl (pi_list (pe_call (ok_lots_of T) (hr.mono (by decide)) (by rfl) T.g_lots_of T.F_lots_of.kp T.b_lots_of .nil pass0 (pa_cons (pe_ix ix_tup (pv 0) pe_int (fun _ _ => rfl)) (pa_cons (pv 2) (pa_cons pe_int pa_nil))))) (pg_name (i := 3) sc_best_lot.nd rfl (Or.inl rfl))
      (pss_one (ps_if (pt_cmpR op_gt (pe_call (ok_bound_of T) (hr.mono (by decide)) (by rfl) T.g_bound_of T.F_bound_of.kp T.b_bound_of .nil pass0 (pa_cons (pv 0) (pa_cons (pv 3) pa_nil))) (pe_ix ix_tup (pv 1) pe_int (fun _ _ => rfl)) (nomark _)) (pss_one (ps_set (i := 1) sc_best_lot.nd rfl (Or.inl rfl) (pe_tup (pa_cons (pe_call (ok_bound_of T) (hr.mono (by decide)) (by rfl) T.g_bound_of T.F_bound_of.kp T.b_bound_of .nil pass0 (pa_cons (pv 0) (pa_cons (pv 3) pa_nil))) (pa_cons (pv 3) pa_nil))))) pss_nil)))))
      (pss_one (ps_ret (pv 1))))))), pure_best_lot h⟩


def pr_law_purse (K : PySem.W.Frag) (v0 : V) (H : Hp) (Q : VK) (_ : XK) : Prop := ∃ (a : Addr) (ns : List Int), v0 = .ref a ∧ SqL K H a (ns.map V.int) ∧ ns.length ≤ 63 ∧ ∀ pu ce n H', Same H H' → H pu = none → H ce = none → Pu H' pu ce n 0 → Q (.ref pu) H'
def t_law_purse (K : PySem.W.Frag) : TS :=
  (tSeq (tAsg (tSl (rSlL K) (tVar 0) tNoPart (tPart (tC (.int 63)))) (gName 1))
    (tSeq (tIfS (tTest (tOp (rEqD K) (tVar 1) (tLst tNil))) (tAsg (tLst (tCons (tC (.int 0)) tNil)) (gName 1)) tNext)
    (tRet (tLst (tCons (tVar 1) (tCons (tC (.int 0)) tNil))))))
theorem cut63 {ns : List Int} (h : ns.length ≤ 63) : cutV (ns.map V.int) none (some 63) = ns.map V.int := by
  unfold cutV
  rw [HT.sIx_none, show HT.sIx (ns.map V.int).length (ns.map V.int).length (some 63) = min 63 (ns.map V.int).length from HT.sIx_nat _ _ 63]
  rw [List.drop_zero, List.length_map]
  exact List.take_of_length_le (by rw [List.length_map]; omega)
theorem pure_law_purse {v0 : V} {H : Hp} {Q : VK} {E : XK} (h : pr_law_purse K v0 H Q E) : t_law_purse K ⟨fun _ H' => Q .non H', Q, fun _ _ => False, fun _ _ => False⟩ [some v0, none] H := by
  obtain ⟨a, ns, rfl, ha, hz, q⟩ := h
  unfold t_law_purse
  wtm_at "s"
  refine k_slL ha (fun ce H1 nce sm1 hce => ?_)
  rw [cut63 hz] at hce
  wtm_at "s"
  refine ⟨sz (by simp), fun em nem => ?_⟩
  have hce2 : upd H1 em (.lst []) ce = some (.lst (ns.map V.int)) := same_new nem _ _ hce
  have sm2 : Same H (upd H1 em (.lst [])) := sm1.trans (same_new nem)
  refine k_eqD (c := dInts ns) (d := dInts []) (n := 1) (dp_of_ints (sl hce2)) (dp_of_ints (ns := []) (sl upd_same)) (sh_ints ns) (sh_ints []) (by decide) ?_
  cases ns with
  | nil =>
    refine k_bl ?_
    refine k_itT rfl ?_
    wtm_at "s"
    refine ⟨sz (by simp), fun c2 nc2 => ?_⟩
    wtm_at "s"
    refine ⟨sz (by simp), fun pu npu => ?_⟩
    have hc2 : upd (upd H1 em (.lst [])) c2 (.lst [.int 0]) c2 = some (.lst ([(0 : Int)].map V.int)) := upd_same
    exact q pu c2 1 _ (sm2.trans ((same_new nc2).trans (same_new npu))) ((sm2.trans (same_new nc2)).free npu) (sm2.free nc2) ⟨upd_same, ⟨[0], rfl, same_new npu _ _ hc2⟩, by decide, by decide, by decide⟩
  | cons x r =>
    refine k_bl ?_
    refine k_itF rfl ?_
    wtm_at "s"
    refine ⟨sz (by simp), fun pu npu => ?_⟩
    exact q pu ce (x :: r).length _ (sm2.trans (same_new npu)) (sm2.free npu) nce ⟨upd_same, ⟨_, rfl, same_new npu _ _ hce2⟩, by simp, hz, by decide⟩
abbrev sp_law_purse (K : PySem.W.Frag) : Sp := fun vs H Q E => ∃ v0, vs = [v0] ∧ pr_law_purse K v0 H Q E
theorem ok_law_purse (T : Txt K mg A) : FnOk P w K mg base CX0 1 A.a_law_purse A.d_law_purse ["_law_script"] (sp_law_purse K) := by
  refine T.F_law_purse.ok sc_law_purse (fun vs H Q E h => by obtain ⟨v0, rfl, _⟩ := h; rfl) (fun cdv A0 outer s H vs Q E hr h => ?_)
  obtain ⟨v0, rfl, h⟩ := h
  exact ⟨t_law_purse K, (pss_cons (ps_set (i := 1) sc_law_purse.nd rfl (Or.inl rfl) (pe_slice sl_list (pv 0) po_none (po_some pe_int)))
      (pss_cons (ps_if (pt_cmpR (op_eqD hr.units) (pv 1) (pe_lst pa_nil) (nomark _)) (pss_one (ps_set (i := 1) sc_law_purse.nd rfl (Or.inl rfl) (pe_lst (pa_cons pe_int pa_nil)))) pss_nil)
      (pss_one (ps_ret (pe_lst (pa_cons (pv 1) (pa_cons pe_int pa_nil))))))), pure_law_purse h⟩
def pr_law_draw (K : PySem.W.Frag) (v0 v1 : V) (H : Hp) (Q : VK) (_ : XK) : Prop := ∃ pu ce n t m, v0 = .ref pu ∧ v1 = .int m ∧ Pu H pu ce n t ∧ t < 1000000 ∧ 0 < m ∧ m < 2 ^ 200 ∧ ∀ r H', 0 ≤ r → r < m → Pu H' pu ce n (t + 1) → Same (hid [pu, ce] H) (hid [pu, ce] H') → Q (.int r) H'
def t_law_draw (K : PySem.W.Frag) : TS :=
  (tSeq (tAsg (tVar 0) (gUnl K 2 (gCons (gName 2) (gCons (gName 3) gNil))))
    (tSeq (tAsg (tOp xMod (tVar 3) (tCB (rLenX K) (tCons (tVar 2) tNil))) (gName 4))
    (tSeq (tAsg (tOp (rIxL K) (tVar 2) (tVar 4)) (gName 5))
    (tSeq (tAsg (tOp xAdd (tVar 3) (tC (.int 1))) (gSub (tVar 0) (tC (.int 1)) rSetL))
    (tSeq (tIfS (tTest (tOp xGe (tVar 5) (tOp xPow (tC (.int 10)) (tC (.int 18))))) (tSeq (tAsg (tOp xDivW (tVar 5) (tVar 1)) (gSub (tVar 2) (tVar 4) rSetL))
    (tRet (tOp xMod (tVar 5) (tVar 1)))) tNext)
    (tSeq (tAsg (tOp xMod (tOp xAdd (tOp xAdd (tOp xMul (tOp xMod (tVar 5) (tC (.int 2147483647))) (tC (.int 48271))) (tOp xMul (tOp xMul (tVar 3) (tVar 3)) (tC (.int 69621)))) (tC (.int 7))) (tC (.int 2147483647))) (gName 6))
    (tSeq (tAsg (tOp xMod (tOp xMul (tVar 6) (tVar 6)) (tC (.int 2147483629))) (gName 6))
    (tRet (tOp xMod (tOp xMod (tOp xMul (tVar 6) (tVar 6)) (tC (.int 2147483587))) (tVar 1))))))))))
theorem pure_law_draw {v0 v1 : V} {H : Hp} {Q : VK} {E : XK} (h : pr_law_draw K v0 v1 H Q E) : t_law_draw K ⟨fun _ H' => Q .non H', Q, fun _ _ => False, fun _ _ => False⟩ [some v0, some v1, none, none, none, none, none] H := by
  obtain ⟨pu, ce, n, t, m, rfl, rfl, hP, ht, hm0, hm1, q⟩ := h
  obtain ⟨cs, hl, hc⟩ := hP.hc
  have hp := hP.hp
  have n0 := hP.n0
  have t0 := hP.t0
  have ne := hP.ne
  unfold t_law_draw
  wtm_at "s"
  refine k_gunl (sl hp) rfl ?_
  wtm_at "s"
  have a0 : 0 ≤ t % (cs.length : Int) := Int.emod_nonneg _ (by omega)
  have a1 : t % (cs.length : Int) < cs.length := Int.emod_lt_of_pos _ (by omega)
  refine k_ixI (sl hc) a0 a1 ?_
  wtm_at "s"
  refine k_setL hp (j := 1) rfl ?_
  have hc1 : upd H pu (.lst [.ref ce, .int (t + 1)]) ce = some (.lst (cs.map V.int)) := by rw [upd_ne ne.symm]; exact hc
  have P1 : Pu (upd H pu (.lst [.ref ce, .int (t + 1)])) pu ce n (t + 1) := ⟨upd_same, ⟨cs, hl, hc1⟩, n0, hP.n1, by omega⟩
  have S1 : Same (hid [pu, ce] H) (hid [pu, ce] (upd H pu (.lst [.ref ce, .int (t + 1)]))) := same_hid_upd (Same.refl _) (by simp)
  wtm_at "s"
  refine k_it (fun c1 => ?_) (fun c1 => ?_)
  · wtm_at "s"
    refine k_divW (wide_div hm0 (b := 201) (by omega) (by decide) (by decide)) ?_
    wtm_at "s"
    refine k_setL hc1 (ixN_of a0 (by rw [List.length_map]; exact a1)) ?_
    wtm_at "s"
    refine q _ _ (Int.emod_nonneg _ (by omega)) (Int.emod_lt_of_pos _ hm0) ⟨by rw [upd_ne ne]; exact upd_same, ⟨_, ?_, by rw [upd_same, map_set_int]⟩, n0, hP.n1, by omega⟩ (same_hid_upd S1 (by simp))
    rw [List.length_set]; exact hl
  · wtm_at "s"
    exact q _ _ (Int.emod_nonneg _ (by omega)) (Int.emod_lt_of_pos _ hm0) P1 S1
abbrev sp_law_draw (K : PySem.W.Frag) : Sp := fun vs H Q E => ∃ v0 v1, vs = [v0, v1] ∧ pr_law_draw K v0 v1 H Q E
theorem ok_law_draw (T : Txt K mg A) : FnOk P w K mg base CX0 1 A.a_law_draw A.d_law_draw ["_law_purse_here", "_law_out_of"] (sp_law_draw K) := by
  refine T.F_law_draw.ok sc_law_draw (fun vs H Q E h => by obtain ⟨v0, v1, rfl, _⟩ := h; rfl) (fun cdv A0 outer s H vs Q E hr h => ?_)
  obtain ⟨v0, v1, rfl, h⟩ := h
  exact ⟨t_law_draw K, (pss_cons (ps_asg (pv 0) (pg_unl (by rfl) (pgs_cons (pg_name (i := 2) sc_law_draw.nd rfl (Or.inl rfl)) (pgs_cons (pg_name (i := 3) sc_law_draw.nd rfl (Or.inl rfl)) pgs_nil))))
      (pss_cons (ps_set (i := 4) sc_law_draw.nd rfl (Or.inl rfl) (pe_op op_mod (pv 3) (pe_callB q_len (by rfl) T.z_len (by decide +kernel) (pa_cons (pv 2) pa_nil))))
      (pss_cons (ps_set (i := 5) sc_law_draw.nd rfl (Or.inl rfl) (pe_ix ix_list (pv 2) (pv 4) (fun _ _ => rfl)))
      (pss_cons (ps_asg (pe_op op_add (pv 3) pe_int) (pg_sub (pv 0) pe_int set_list))
      (pss_cons (ps_if (pt_cmpR op_ge (pv 5) (pe_op op_pow pe_int pe_int) (nomark _)) (pss_cons (ps_asg (pe_op op_fdivW (pv 5) (pv 1)) (pg_sub (pv 2) (pv 4) set_list))
      (pss_one (ps_ret (pe_op op_mod (pv 5) (pv 1))))) pss_nil)
      (pss_cons (ps_set (i := 6) sc_law_draw.nd rfl (Or.inl rfl) (pe_op op_mod (pe_op op_add (pe_op op_add (pe_op op_mul (pe_op op_mod (pv 5) pe_int) pe_int) (pe_op op_mul (pe_op op_mul (pv 3) (pv 3)) pe_int)) pe_int) pe_int))
      (pss_cons (ps_set (i := 6) sc_law_draw.nd rfl (Or.inl rfl) (pe_op op_mod (pe_op op_mul (pv 6) (pv 6)) pe_int))
      (pss_one (ps_ret (pe_op op_mod (pe_op op_mod (pe_op op_mul (pv 6) (pv 6)) pe_int) (pv 1))))))))))), pure_law_draw h⟩
/-- draw(purse, [..][draw(purse, n)]) -/
theorem rd_pickP {σ : L2.St} {i : Nat} {pu ce : Addr} {n : Nat} {t : Int} {cs : List Int} {ta : TA} {hi : Int} {H : Hp} {Q : VK} (hv : σ[i]? = some (some (.ref pu))) (L : Pu H pu ce n t) (ht : t < 900000)
    (hta : ∀ (H : Hp) (R : List V → Hp → Prop), R (cs.map V.int) H → ta σ H R) (hc : cs.length ≤ 100) (c0 : 0 < cs.length) (hb : ∀ c ∈ cs, 1 ≤ c ∧ c ≤ hi) (hh : hi < 2 ^ 100)
    (q : ∀ d H', 0 ≤ d → d < hi → Pu H' pu ce n (t + 2) → Same (hid [pu, ce] H) (hid [pu, ce] H') → Q (.int d) H') :
    tCall (sp_law_draw K) [] E0 (tCons (tVar i) (tCons (tOp (rIxL K) (tLst ta) (tCall (sp_law_draw K) [] E0 (tCons (tVar i) (tCons (tC (.int cs.length)) tNil)))) tNil)) σ H Q := by
  refine k_call (k_cons (k_var hv (k_cons (k_op (k_lst (hta _ _ ⟨sz (by rw [List.length_map]; omega), fun dl ndl => ?_⟩))))))
  refine k_call (k_cons (k_var hv (k_cons (k_c (k_nil ?_)))))
  have ndl' := L.fresh ndl
  refine ⟨_, _, rfl, pu, ce, n, t, cs.length, rfl, rfl, L.upd ndl', by omega, by omega, by omega, fun r H2 r0 r1 L2 S2 => ?_⟩
  refine k_ixI (sl (keeps S2 upd_same ndl')) r0 r1 ?_
  have hm := hb _ (getD_memI r0 r1)
  refine k_nil ?_
  refine ⟨_, _, rfl, pu, ce, n, t + 1, _, rfl, rfl, L2, by omega, by omega, by omega, fun d H3 d0 d1 L3 S3 => ?_⟩
  refine q d H3 d0 (by omega) ?_ ((same_hid_new ndl).trans (S2.trans S3))
  rw [show t + 2 = t + 1 + 1 by omega]; exact L3


theorem nodup_below : ∀ (n : Nat) (l : List Int), l.Nodup → (∀ x ∈ l, 0 ≤ x ∧ x < n) → l.length ≤ n
  | 0, l, _, h => by
    cases l with
    | nil => simp
    | cons x r => have := h x List.mem_cons_self; omega
  | n + 1, l, nd, h => by
    have e : l.length = l.countP (fun x => decide (x = (n : Int))) + l.countP (fun x => !decide (x = (n : Int))) := by
      have := List.length_eq_countP_add_countP (fun x : Int => decide (x = (n : Int))) (l := l)
      rw [this]
      congr 1
      exact List.countP_congr fun x _ => by simp
    have c1 : l.countP (fun x => decide (x = (n : Int))) ≤ 1 := by
      have := List.nodup_iff_count.mp nd (n : Int)
      rw [List.count_eq_countP] at this
      have e2 : l.countP (fun x => decide (x = (n : Int))) = l.countP (· == (n : Int)) := List.countP_congr fun x _ => by simp
      rw [e2]; exact this
    have c2 := nodup_below n (l.filter fun x => !decide (x = (n : Int))) (nd.filter _) (fun x hx => by
      obtain ⟨h1, h2⟩ := List.mem_filter.mp hx
      have := h x h1
      simp at h2
      omega)
    rw [← List.countP_eq_length_filter] at c2
    omega
theorem firstMet_nd (val : Nat → Int) : ∀ i, (PyProof.Rows.firstMet val i).Nodup ∧ ∀ x ∈ PyProof.Rows.firstMet val i, ∃ j, j < i ∧ x = val j
  | 0 => ⟨List.nodup_nil, fun x z => by cases z⟩
  | i + 1 => by
    obtain ⟨h1, h2⟩ := firstMet_nd val i
    rw [PyProof.Rows.firstMet_succ]
    unfold PyProof.Rows.step_dedup
    split
    · exact ⟨h1, fun x hx => by obtain ⟨j, hj, e⟩ := h2 x hx; exact ⟨j, by omega, e⟩⟩
    · rename_i c
      refine ⟨?_, fun x hx => ?_⟩
      · rw [List.nodup_append]
        refine ⟨h1, by simp, fun x hx y hy e => ?_⟩
        rw [List.mem_singleton.mp hy] at e
        refine c (List.any_eq_true.mpr ⟨x, hx, by simp [e]⟩)
      · rcases List.mem_append.mp hx with hx | hx
        · obtain ⟨j, hj, e⟩ := h2 x hx; exact ⟨j, by omega, e⟩
        · exact ⟨i, by omega, List.mem_singleton.mp hx⟩
theorem unl_below {hs : List Int} {n : Nat} (h : ∀ x ∈ hs, 0 ≤ x ∧ x < n) : unl hs ≤ n := by
  obtain ⟨h1, h2⟩ := firstMet_nd (fun i => hs.getD i 0) hs.length
  refine nodup_below n _ h1 fun x hx => ?_
  obtain ⟨j, hj, rfl⟩ := h2 x hx
  refine h _ ?_
  show hs.getD j 0 ∈ hs
  rw [List.getD_eq_getElem?_getD, List.getElem?_eq_getElem hj]
  exact List.getElem_mem hj
/-! ### all odd lots, by bits and by size -/
theorem bit_test (b j : Nat) : decide (Builtin.bitAnd ((0 + (b : Int)) / 2 ^ (0 + (j : Int)).toNat) 1 = 1) = b.testBit j := by
  have e1 : (0 + (b : Int)) / 2 ^ (0 + (j : Int)).toNat = ((b / 2 ^ j : Nat) : Int) := by
    rw [Int.zero_add, Int.zero_add, Int.toNat_natCast]; push_cast; rfl
  have e2 : Builtin.bitAnd ((b / 2 ^ j : Nat) : Int) 1 = ((b / 2 ^ j % 2 : Nat) : Int) := by
    have := PyProof.Rows.bitAnd_pp (x := ((b / 2 ^ j : Nat) : Int)) (y := 1) (Int.natCast_nonneg _) (by decide)
    rw [this]
    have h : ((b / 2 ^ j : Nat) : Int).toNat &&& (1 : Int).toNat = b / 2 ^ j % 2 := by
      rw [Int.toNat_natCast]
      exact Nat.and_two_pow_sub_one_eq_mod (b / 2 ^ j) 1
    rw [h]
  rw [e1, e2, Nat.testBit_eq_decide_div_mod_eq]
  rw [Bool.eq_iff_iff, decide_eq_true_iff, decide_eq_true_iff]
  omega
def bitsL (m b : Nat) : List Int := ((List.range m).filter fun j => b.testBit j).map fun j : Nat => (j : Int)
theorem bits_mem {m b : Nat} {x : Int} : x ∈ bitsL m b ↔ ∃ j : Nat, j < m ∧ b.testBit j = true ∧ x = j := by
  unfold bitsL
  rw [List.mem_map]
  constructor
  · rintro ⟨j, hj, rfl⟩
    obtain ⟨h1, h2⟩ := List.mem_filter.mp hj
    exact ⟨j, List.mem_range.mp h1, h2, rfl⟩
  · rintro ⟨j, h1, h2, rfl⟩
    exact ⟨j, List.mem_filter.mpr ⟨List.mem_range.mpr h1, h2⟩, rfl⟩
theorem bits_pw (m b : Nat) : (bitsL m b).Pairwise (· < ·) := by
  unfold bitsL
  rw [List.pairwise_map]
  exact (List.pairwise_lt_range.filter _).imp fun h => by omega
theorem bits_inj {m b b' : Nat} (h : b < 2 ^ m) (h' : b' < 2 ^ m) (e : bitsL m b = bitsL m b') : b = b' := by
  refine Nat.eq_of_testBit_eq fun i => ?_
  by_cases c : i < m
  · have k : ∀ b, ((i : Int) ∈ bitsL m b) ↔ b.testBit i = true := fun b => by
      rw [bits_mem]
      constructor
      · rintro ⟨j, _, h2, e⟩; rw [Int.ofNat.inj e]; exact h2
      · intro h; exact ⟨i, c, h, rfl⟩
    rw [Bool.eq_iff_iff, ← k b, ← k b', e]
  · have p : 2 ^ m ≤ 2 ^ i := Nat.pow_le_pow_right (by decide) (by omega)
    rw [Nat.testBit_lt_two_pow (by omega), Nat.testBit_lt_two_pow (by omega)]
theorem bits_of (P : Nat → Bool) : ∀ m, ∃ b, b < 2 ^ m ∧ ∀ j, j < m → b.testBit j = P j
  | 0 => ⟨0, by decide, fun j h => by omega⟩
  | m + 1 => by
    obtain ⟨b, hb, h⟩ := bits_of P m
    refine ⟨2 ^ m * (if P m = true then 1 else 0) + b, ?_, fun j hj => ?_⟩
    · rw [Nat.pow_succ]; split <;> omega
    · rw [Nat.testBit_two_pow_mul_add _ hb]
      by_cases c : j < m
      · rw [if_pos c]; exact h j c
      · have : j = m := by omega
        subst this
        rw [if_neg c, Nat.sub_self]
        cases P j <;> rfl
theorem ss_same {l k : List Int} (h1 : l.Pairwise (· < ·)) (h2 : k.Pairwise (· < ·)) (h : ∀ x, x ∈ l ↔ x ∈ k) : l = k := by
  refine List.Perm.eq_of_pairwise (le := (· < ·)) (fun a b _ _ h1 h2 => by omega) h1 h2 ?_
  exact (List.perm_ext_iff_of_nodup (h1.imp fun h e => by omega) (h2.imp fun h e => by omega)).mpr h
theorem bits_all {m : Nat} {l : List Int} (pw : l.Pairwise (· < ·)) (hb : ∀ x ∈ l, 0 ≤ x ∧ x < m) : ∃ b, b < 2 ^ m ∧ bitsL m b = l := by
  obtain ⟨b, h1, h2⟩ := bits_of (fun j => decide ((j : Int) ∈ l)) m
  refine ⟨b, h1, ss_same (bits_pw m b) pw fun x => ?_⟩
  rw [bits_mem]
  constructor
  · rintro ⟨j, hj, hx, rfl⟩
    rw [h2 j hj] at hx
    exact of_decide_eq_true hx
  · intro hx
    obtain ⟨a, c⟩ := hb x hx
    refine ⟨x.toNat, by omega, ?_, by omega⟩
    rw [h2 _ (by omega)]
    exact decide_eq_true (by rw [Int.toNat_of_nonneg a]; exact hx)
def oddL (l : List Int) : Bool := decide (2 < l.length) && decide (l.length % 2 = 1)
def foundF (m : Nat) : List (List Int) := ((List.range (2 ^ m)).map (bitsL m)).filter oddL
def allT (m : Nat) : List (List Int) := (List.range (((m : Int) - 1) / 2).toNat).flatMap fun i => lotsF m (3 + 2 * i) 0
theorem pw_len {m : Nat} {l : List Int} (pw : l.Pairwise (· < ·)) (hb : ∀ x ∈ l, 0 ≤ x ∧ x < m) : l.length ≤ m := nodup_below m l (pw.imp fun h e => by omega) hb
theorem found_mem {m : Nat} {l : List Int} : l ∈ foundF m ↔ l.Pairwise (· < ·) ∧ (∀ x ∈ l, 0 ≤ x ∧ x < m) ∧ 3 ≤ l.length ∧ l.length % 2 = 1 := by
  unfold foundF oddL
  rw [List.mem_filter, List.mem_map, Bool.and_eq_true, decide_eq_true_iff, decide_eq_true_iff]
  constructor
  · rintro ⟨⟨b, _, rfl⟩, h1, h2⟩
    refine ⟨bits_pw m b, fun x hx => ?_, by omega, h2⟩
    obtain ⟨j, hj, _, rfl⟩ := bits_mem.mp hx
    omega
  · rintro ⟨h1, h2, h3, h4⟩
    obtain ⟨b, hb, e⟩ := bits_all h1 h2
    exact ⟨⟨b, List.mem_range.mpr hb, e⟩, by omega, h4⟩
theorem found_nd (m : Nat) : (foundF m).Nodup := by
  unfold foundF
  show List.Pairwise (· ≠ ·) _
  refine List.Pairwise.filter _ ?_
  rw [List.pairwise_map]
  refine List.Pairwise.imp_of_mem (fun {a b} ha hb h e => ?_) List.pairwise_lt_range
  have := bits_inj (List.mem_range.mp ha) (List.mem_range.mp hb) e
  omega
theorem lotsF_all {m : Int} : ∀ {s : Nat} {a : Int} {l : List Int}, l.length = s → l.Pairwise (· < ·) → (∀ x ∈ l, a ≤ x ∧ x < m) → l ∈ lotsF m s a
  | 0, a, l, h, _, _ => by
    have : l = [] := List.length_eq_zero_iff.mp h
    subst this
    exact List.mem_singleton.mpr rfl
  | s + 1, a, [], h, _, _ => by simp at h
  | s + 1, a, x :: r, h, pw, hb => by
    obtain ⟨h1, h2⟩ := List.pairwise_cons.mp pw
    have hx := hb x List.mem_cons_self
    show x :: r ∈ (List.range (m - a).toNat).flatMap fun (j : Nat) => (lotsF m s (a + (j : Int) + 1)).map fun r => (a + (j : Int)) :: r
    refine List.mem_flatMap.mpr ⟨(x - a).toNat, List.mem_range.mpr (by omega), List.mem_map.mpr ⟨r, lotsF_all (by simpa using h) h2 fun y hy => ?_, ?_⟩⟩
    · have := h1 y hy
      have := hb y (List.mem_cons_of_mem _ hy)
      omega
    · rw [show a + (((x - a).toNat : Nat) : Int) = x by omega]
theorem lotsF_lex (m : Int) : ∀ (s : Nat) (a : Int), (lotsF m s a).Pairwise (fun l k => l < k)
  | 0, a => List.pairwise_singleton _ _
  | s + 1, a => by
    show ((List.range (m - a).toNat).flatMap fun (j : Nat) => (lotsF m s (a + (j : Int) + 1)).map fun r => (a + (j : Int)) :: r).Pairwise _
    rw [List.pairwise_flatMap]
    refine ⟨fun j _ => ?_, ?_⟩
    · rw [List.pairwise_map]
      exact (lotsF_lex m s _).imp fun h => List.cons_lt_cons_iff.mpr (.inr ⟨rfl, h⟩)
    · refine List.pairwise_lt_range.imp fun {i j} hij x hx y hy => ?_
      obtain ⟨r, _, rfl⟩ := List.mem_map.mp hx
      obtain ⟨r', _, rfl⟩ := List.mem_map.mp hy
      exact List.cons_lt_cons_iff.mpr (.inl (by omega))
theorem allT_mem {m : Nat} {l : List Int} : l ∈ allT m ↔ l.Pairwise (· < ·) ∧ (∀ x ∈ l, 0 ≤ x ∧ x < m) ∧ 3 ≤ l.length ∧ l.length % 2 = 1 := by
  unfold allT
  rw [List.mem_flatMap]
  constructor
  · rintro ⟨i, _, hl⟩
    obtain ⟨h1, h2, h3⟩ := lotsF_ok hl
    exact ⟨h3, h2, by omega, by omega⟩
  · rintro ⟨h1, h2, h3, h4⟩
    have := pw_len h1 h2
    exact ⟨(l.length - 3) / 2, List.mem_range.mpr (by omega), lotsF_all (by omega) h1 h2⟩
def encL (l : List Int) : PyData := .tuple [.int (l.length : Nat), dInts l]
theorem enc_alike (a b : List Int) : PySem.W.alike (encL a) (encL b) = true := by
  unfold encL
  simp [PySem.W.alike, PySem.W.alikeAll, PySem.W.alike_ints]
theorem enc_lt (a b : List Int) : PySem.W.dataLt (encL a) (encL b) = if a.length = b.length then decide (a < b) else decide (a.length < b.length) := by
  unfold encL
  rw [PySem.W.dataLt_pair (by simp [PySem.W.alike]) (by simp [PySem.W.alike, PySem.W.alike_ints])]
  have e1 : PyData.eqv (.int (a.length : Nat)) (.int (b.length : Nat)) = decide (a.length = b.length) := by
    show ((a.length : Int) == (b.length : Int)) = _
    rw [Bool.eq_iff_iff, beq_iff_eq, decide_eq_true_iff]
    omega
  have e2 : PySem.W.dataLt (dInts a) (dInts b) = decide (a < b) := by
    have := congrFun (congrFun (PySem.W.dataLe_rows (fun x : List Int => x)) b) a
    have h2 : (!PySem.W.dataLt (dInts a) (dInts b)) = decide (b ≤ a) := this
    have h3 : decide (b ≤ a) = !decide (a < b) := by
      rw [Bool.eq_iff_iff, decide_eq_true_iff, Bool.not_eq_true', decide_eq_false_iff_not]
      exact Iff.rfl
    rw [h3] at h2
    exact Bool.not_inj h2
  rw [e1, e2, PySem.W.dataLt_int]
  by_cases c : a.length = b.length
  · rw [if_pos (decide_eq_true c), if_pos c]
    cases z : PyData.eqv (dInts a) (dInts b) with
    | false => rfl
    | true =>
      have e : dInts a = dInts b ∨ True := .inr trivial
      have : a = b := by
        have key : ∀ x y : List Int, PyData.eqvAll (x.map .int) (y.map .int) = true → x = y := by
          intro x
          induction x with
          | nil => intro y h; cases y with
            | nil => rfl
            | cons => cases h
          | cons u r ih => intro y h; cases y with
            | nil => cases h
            | cons v s =>
              have h' : (PyData.eqv (.int u) (.int v) && PyData.eqvAll (r.map .int) (s.map .int)) = true := h
              rw [Bool.and_eq_true] at h'
              have e1 : u = v := by have := h'.1; exact beq_iff_eq.mp this
              rw [e1, ih s h'.2]
        exact key a b z
      rw [this]
      exact (decide_eq_false (List.lt_irrefl b)).symm
  · rw [if_neg (by rw [decide_eq_true_iff]; exact c), if_neg c]
    rw [Bool.eq_iff_iff, decide_eq_true_iff, decide_eq_true_iff]
    omega
def leL : List Int → List Int → Bool := PySem.W.dataLe false encL
theorem allT_pw (m : Nat) : (allT m).Pairwise (fun a b => leL a b = true ∧ a ≠ b) := by
  have key : ∀ a b : List Int, (a.length < b.length ∨ (a.length = b.length ∧ a < b)) → leL a b = true ∧ a ≠ b := fun a b h => by
    constructor
    · show (!PySem.W.dataLt (encL b) (encL a)) = true
      rw [enc_lt, Bool.not_eq_true']
      rcases h with h | ⟨h1, h2⟩
      · rw [if_neg (by omega), decide_eq_false_iff_not]; omega
      · rw [if_pos h1.symm, decide_eq_false_iff_not]
        exact fun z => List.lt_irrefl _ (List.lt_trans h2 z)
    · rintro rfl
      rcases h with h | ⟨_, h⟩
      · omega
      · exact List.lt_irrefl _ h
  unfold allT
  rw [List.pairwise_flatMap]
  refine ⟨fun i _ => ?_, ?_⟩
  · refine List.Pairwise.imp_of_mem (fun {a b} ha hb h => key a b (.inr ⟨by rw [(lotsF_ok ha).1, (lotsF_ok hb).1], h⟩)) (lotsF_lex m _ 0)
  · exact List.pairwise_lt_range.imp fun {i j} hij x hx y hy => key x y (.inl (by rw [(lotsF_ok hx).1, (lotsF_ok hy).1]; omega))
theorem leL_anti {a b : List Int} (h1 : leL a b = true) (h2 : leL b a = true) : a = b := by
  have h1 : (!PySem.W.dataLt (encL b) (encL a)) = true := h1
  have h2 : (!PySem.W.dataLt (encL a) (encL b)) = true := h2
  rw [enc_lt, Bool.not_eq_true'] at h1 h2
  by_cases c : a.length = b.length
  · rw [if_pos c.symm, decide_eq_false_iff_not] at h1
    rw [if_pos c, decide_eq_false_iff_not] at h2
    exact List.le_antisymm h1 h2
  · rw [if_neg (fun z => c z.symm), decide_eq_false_iff_not] at h1
    rw [if_neg c, decide_eq_false_iff_not] at h2
    omega
theorem found_sorted (m : Nat) : (foundF m).mergeSort leL = allT m := by
  have tl : PySem.W.TotalLe leL := by
    unfold leL PySem.W.dataLe
    exact PySem.W.sortLe_total _ _ _
  refine List.Perm.eq_of_pairwise (le := fun a b => leL a b = true) (fun a b _ _ => leL_anti) (PySem.W.sort_pairwise tl _) ((allT_pw m).imp fun h => h.1) ?_
  refine (List.mergeSort_perm _ _).trans ((List.perm_ext_iff_of_nodup (found_nd m) ((allT_pw m).imp fun h => h.2)).mpr fun l => ?_)
  rw [found_mem, allT_mem]
theorem srt_data {xs : List V} {ds : List PyData} (hl : xs.length = ds.length) : (srtD xs ds).map Prod.snd = ds.mergeSort (PySem.W.dataLe false id) := by
  have e := PySem.W.sort_maps (r := PySem.W.dataLe false byD) (s := PySem.W.dataLe false id) byD (l := xs.zip ds) fun a _ b _ => rfl
  have z : (xs.zip ds).map byD = ds := by
    show (xs.zip ds).map Prod.snd = ds
    rw [List.map_snd_zip (by omega)]
  rw [z] at e
  exact e
theorem zip_dp {K : PySem.W.Frag} {H : Hp} : ∀ {xs : List V} {ds : List PyData}, DpAll K H xs ds → ∀ z ∈ xs.zip ds, Dp K H z.1 z.2
  | _, _, .nil, z, hz => by cases hz
  | _, _, .cons h t, z, hz => by
    rw [List.zip_cons_cons] at hz
    rcases List.mem_cons.mp hz with rfl | hz
    · exact h
    · exact zip_dp t z hz
theorem srt_dp {K : PySem.W.Frag} {H : Hp} {xs : List V} {ds : List PyData} (h : DpAll K H xs ds) : DpAll K H ((srtD xs ds).map Prod.fst) ((srtD xs ds).map Prod.snd) := by
  have zp : ∀ z ∈ xs.zip ds, Dp K H z.1 z.2 := by
    exact zip_dp h
  have all : ∀ zs : List (V × PyData), (∀ z ∈ zs, Dp K H z.1 z.2) → DpAll K H (zs.map Prod.fst) (zs.map Prod.snd) := by
    intro zs
    induction zs with
    | nil => intro _; exact .nil
    | cons z r ih => intro h; exact .cons (h z List.mem_cons_self) (ih fun y hy => h y (List.mem_cons_of_mem _ hy))
  refine all _ fun z hz => zp z ?_
  exact (List.mergeSort_perm _ _).mem_iff.mp hz
theorem srt_lots {K : PySem.W.Frag} {H : Hp} {m : Nat} {xs : List V} (h : DpAll K H xs ((foundF m).map encL)) : DpAll K H ((srtD xs ((foundF m).map encL)).map Prod.fst) ((allT m).map encL) := by
  have a := srt_dp h
  have e : (srtD xs ((foundF m).map encL)).map Prod.snd = (allT m).map encL := by
    rw [srt_data (dpa_len h), ← found_sorted]
    exact (PySem.W.sort_maps (r := leL) (s := PySem.W.dataLe false id) encL (l := foundF m) fun a _ b _ => rfl).symm
  rw [e] at a
  exact a
theorem best_all (m : Nat) (ps : List (Int × Int)) (L : Int) : (allT m).foldl (bestStep ps) (L, []) = bestF m ps L := by
  unfold allT bestF
  rw [List.foldl_flatMap]
theorem half_up {w h : Int} (h0 : 0 < h) (w0 : 0 ≤ w) : w / h + (if w % h > 0 then 1 else 0) = (w + h - 1) / h := by
  have e := Int.mul_ediv_add_emod w h
  have r0 := Int.emod_nonneg w (show h ≠ 0 by omega)
  have r1 := Int.emod_lt_of_pos w h0
  generalize w / h = q at e
  generalize w % h = r at e r0 r1
  by_cases c : r > 0
  · rw [if_pos c]
    have : (w + h - 1) / h = q + 1 := by
      rw [show w + h - 1 = (r - 1) + h * (q + 1) by rw [Int.mul_add, Int.mul_one]; omega, Int.add_mul_ediv_left _ _ (by omega), Int.ediv_eq_zero_of_lt (by omega) (by omega)]
      omega
    exact this.symm
  · rw [if_neg c]
    have : (w + h - 1) / h = q := by
      rw [show w + h - 1 = (h - 1) + h * q by omega, Int.add_mul_ediv_left _ _ (by omega), Int.ediv_eq_zero_of_lt (by omega) (by omega)]
      omega
    rw [this]; omega
theorem zip_fm_len {α : Type} (P : α → Bool) : ∀ (xs : List α) (ys : List V), ys.length = xs.length → ((xs.zip ys).filterMap fun q => if P q.1 = true then some q.2 else none).length = xs.countP P
  | [], _, _ => by simp
  | x :: xs, [], h => by simp at h
  | x :: xs, y :: ys, h => by
    rw [List.zip_cons_cons, List.filterMap_cons, List.countP_cons, ← zip_fm_len P xs ys (by simpa using h)]
    cases c : P x with
    | true => simp
    | false => simp
theorem best_len {m : Int} {ps : List (Int × Int)} {L : Int} (h : m ≤ 12) (h0 : 0 ≤ m) : (bestF m ps L).2.length ≤ 100 := by
  obtain ⟨k, rfl⟩ : ∃ k : Nat, m = (k : Int) := ⟨m.toNat, by omega⟩
  rw [← best_all]
  have key : ∀ (T : List (List Int)) (b : Int × List Int), b.2.length ≤ 100 → (∀ l ∈ T, l.length ≤ 100) → (T.foldl (bestStep ps) b).2.length ≤ 100 := by
    intro T
    induction T with
    | nil => intro b h _; exact h
    | cons l r ih =>
      intro b h hT
      refine ih _ ?_ fun x hx => hT x (List.mem_cons_of_mem _ hx)
      unfold bestStep
      split
      · exact hT l List.mem_cons_self
      · exact h
  refine key _ _ (by simp) fun l hl => ?_
  obtain ⟨h1, h2, _, _⟩ := allT_mem.mp hl
  have := pw_len h1 h2
  omega


def pr_law_lots (K : PySem.W.Frag) (v0 : V) (H : Hp) (Q : VK) (_ : XK) : Prop := ∃ m : Nat, v0 = .int (m : Int) ∧ m ≤ 12 ∧
  ∀ D ys H', Same H H' → H D = none → H' D = some (.lst ys) → DpAll K H' ys ((allT m).map dInts) → (allT m).length ≤ 4096 → Q (.ref D) H'
def t_law_lots (K : PySem.W.Frag) : TS :=
  (tSeq (tAsg (tLst tNil) (gName 1))
    (tSeq (tFor (iRng1 (tCons (tOp xShl (tC (.int 1)) (tVar 0)) tNil)) (gName 2)
      (tSeq (tAsg (tLc (iRng1 (tCons (tVar 0) tNil)) (gName 4) (tTest (tOp rEq (tOp xAnd (tOp xShr (tVar 2) (tVar 4)) (tC (.int 1))) (tC (.int 1)))) (tVar 4) [4]) (gName 3))
    (tIfS (tAnd (tTest (tOp xGt (tCB (rLenX K) (tCons (tVar 3) tNil)) (tC (.int 2)))) (tTest (tOp rEq (tOp xMod (tCB (rLenX K) (tCons (tVar 3) tNil)) (tC (.int 2))) (tC (.int 1))))) (tDrop (tBM K "list" rAppend (tVar 1) (tCons (tTup (tCons (tCB (rLenX K) (tCons (tVar 3) tNil)) (tCons (tVar 3) tNil))) tNil))) tNext)))
    (tRet (tLc (iList K (tCB (rSortD K) (tCons (tVar 1) tNil))) (gTup K 2 (gCons (gName 5) (gCons (gName 3) gNil))) tYes (tVar 3) [5, 3]))))
theorem pure_law_lots {v0 : V} {H : Hp} {Q : VK} {E : XK} (hh : pr_law_lots K v0 H Q E) : t_law_lots K ⟨fun _ H' => Q .non H', Q, fun _ _ => False, fun _ _ => False⟩ [some v0, none, none, none, none, none] H := by
  obtain ⟨m, rfl, m12, q⟩ := hh
  have p64 : 2 ^ m ≤ 2 ^ 12 := Nat.pow_le_pow_right (by omega) m12
  have hN : (1 : Int) * 2 ^ ((m : Nat) : Int).toNat = ((2 ^ m : Nat) : Int) := by simp
  obtain ⟨N, eN⟩ : ∃ N : Nat, N = 2 ^ m := ⟨_, rfl⟩
  have N64 : N ≤ 4096 := by rw [eN]; exact p64
  clear p64
  unfold t_law_lots
  wtm_at "s"
  refine kL (by simp) (fun D H1 nD s1 e1 => ?_)
  wtm_at "s"
  refine k_shl ⟨by omega, by omega, by decide⟩ ?_
  rw [hN, ← eN]
  wtm_at "s"
  rw [Int.toNat_natCast]
  refine forR (fun i σ' H' => Same H H' ∧ ∃ ys k2 k3 k4 k5, σ' = [some (.int (m : Int)), some (.ref D), k2, k3, k4, k5] ∧ H' D = some (.lst ys) ∧ ys.length ≤ i ∧ DpAll K (hid [D] H') ys ((((List.range i).map (bitsL m)).filter oddL).map encL)) ⟨s1, [], _, _, _, _, rfl, e1, by simp, .nil⟩ ?_ ?_
  · rintro i σ' H2 hi ⟨s2, ys, k2, k3, k4, k5, rfl, e2, ly, dys⟩
    wtm_at "s"
    refine lc_pureR (by omega) (fun j => if (fun j : Nat => i.testBit j) j = true then some (V.int (0 + (j : Nat))) else none) ?_ (fun D3 H3 nD3 s3 e3 => ?_)
    · intro j H' hj sm R R0 g1 g2
      wtm_at "s"
      refine k_shr (by omega) ?_
      wtm_at "s"
      have bt := bit_test i j
      refine k_it (fun c1 => ?_) (fun c1 => ?_)
      · wtm_at "s"
        exact g1 _ (if_pos (by show i.testBit j = true; rw [← bt]; exact decide_eq_true c1))
      · exact g2 (if_neg (by show ¬ i.testBit j = true; rw [← bt]; exact fun z => c1 (of_decide_eq_true z)))
    have e3' : H3 D3 = some (.lst ((bitsL m i).map V.int)) := by
      rw [show ((m : Nat) : Int).toNat = m from by simp] at e3
      rw [e3]
      congr 2
      unfold bitsL
      rw [List.map_map]
      clear e3
      induction (List.range m) with
      | nil => rfl
      | cons a r ih =>
        rw [List.filterMap_cons, List.filter_cons]
        by_cases z : i.testBit a = true
        · simp only [z, if_true, ih, List.map_cons]
          rw [Int.zero_add]; rfl
        · rw [if_neg z]
          simp only [if_neg z]
          exact ih
    clear e3
    have s23 := s2.trans s3
    have e2' := s3 _ _ e2
    have hf : ((((List.range (i + 1)).map (bitsL m)).filter oddL).map encL) = ((((List.range i).map (bitsL m)).filter oddL).map encL) ++ if oddL (bitsL m i) = true then [encL (bitsL m i)] else [] := by
      rw [List.range_succ, List.map_append, List.filter_append, List.map_append]
      congr 1
      rw [List.map_cons, List.map_nil, List.filter_cons, List.filter_nil]
      split <;> rfl
    have no : oddL (bitsL m i) = false → ∃ ys' k2' k3' k4' k5', [some (V.int (m : Int)), some (.ref D), some (.int (0 + (i : Nat))), some (.ref D3), k4, k5] = [some (.int (m : Int)), some (.ref D), k2', k3', k4', k5'] ∧ H3 D = some (.lst ys') ∧ ys'.length ≤ i + 1 ∧ DpAll K (hid [D] H3) ys' ((((List.range (i + 1)).map (bitsL m)).filter oddL).map encL) := fun h => by
      refine ⟨ys, _, _, _, _, rfl, e2', by omega, ?_⟩
      rw [hf, h, if_neg (by decide), List.append_nil]
      exact dpa_same (hid_mono s3) dys
    wtm_at "s"
    refine k_it (fun c1 => ?_) (fun c1 => ?_)
    · wtm_at "s"
      refine k_it (fun c2 => ?_) (fun c2 => ?_)
      · have odd : oddL (bitsL m i) = true := by unfold oddL; rw [Bool.and_eq_true, decide_eq_true_iff, decide_eq_true_iff]; omega
        have DD : D3 ≠ D := fun z => by rw [z, e2] at nD3; cases nD3
        wtm_at "s"
        refine k_tyL (sl e2') ?_
        wtm_at "s"
        refine kT (by simp) (fun tp H4 ntp s4 e4 => ?_)
        have TD : tp ≠ D := fun z => by rw [z, e2'] at ntp; cases ntp
        wtm_at "s"
        refine k_append (s4 _ _ e2') (by omega) ?_
        refine ⟨same_mut (s23.trans s4) nD, ys ++ [.ref tp], _, _, _, _, rfl, upd_same, by simp; omega, ?_⟩
        rw [hid_upd (by simp), hf, if_pos odd]
        refine dpa_app (dpa_same (hid_mono (s3.trans s4)) dys) (.cons (.tup (stp (by rw [hid_ne (by simpa using TD)]; exact e4)) (.cons (.int _) (.cons (dp_of_ints (sl ?_)) .nil))) .nil)
        rw [hid_ne (by simpa using DD)]
        exact s4 _ _ e3'
      · wtm_at "s"
        exact ⟨s23, no (by unfold oddL; rw [Bool.and_eq_false_iff, decide_eq_false_iff_not, decide_eq_false_iff_not]; omega)⟩
    · wtm_at "s"
      exact ⟨s23, no (by unfold oddL; rw [Bool.and_eq_false_iff, decide_eq_false_iff_not, decide_eq_false_iff_not]; omega)⟩
  · rintro σ' H2 ⟨s2, ys, k2, k3, k4, k5, rfl, e2, ly, dys⟩
    have dys' : DpAll K H2 ys ((foundF m).map encL) := by
      have := dpa_same (hid_same _ _) dys
      rw [eN] at this
      exact this
    wtm_at "s"
    refine ⟨D, ys, (foundF m).map encL, rfl, sl e2, dys', .of enc_alike, .tuples fun b => ⟨_, _, rfl⟩, fun d hd => ?_, fun S nS => ?_⟩
    · obtain ⟨l, _, rfl⟩ := List.mem_map.mp hd
      exact Nat.le_trans (sh_two (n := 1) (sh_int (i := (l.length : Nat))) (sh_ints (n := 0) l)).2 (by decide)
    have s3 := same_new (o := .lst ((srtD ys ((foundF m).map encL)).map Prod.fst)) nS
    have eS : upd H2 S (.lst ((srtD ys ((foundF m).map encL)).map Prod.fst)) S = some (.lst ((srtD ys ((foundF m).map encL)).map Prod.fst)) := upd_same
    have dz := dpa_same s3 (srt_lots dys')
    generalize upd H2 S (.lst ((srtD ys ((foundF m).map encL)).map Prod.fst)) = H3 at s3 eS dz ⊢
    generalize (srtD ys ((foundF m).map encL)).map Prod.fst = zs at eS dz
    have lz : zs.length = (allT m).length := by rw [dpa_len dz, List.length_map]
    have lT : (allT m).length ≤ 4096 := by
      rw [← found_sorted, List.length_mergeSort]
      unfold foundF
      have h1 := List.length_filter_le oddL ((List.range (2 ^ m)).map (bitsL m))
      rw [List.length_map, List.length_range] at h1
      rw [eN] at N64
      exact Nat.le_trans h1 N64
    wtm_at "s"
    refine ⟨S, rfl, ⟨zs, sl eS⟩, fun LF nLF => ?_⟩
    refine lc_list (xs := zs) (fun p H' => Same H3 H' ∧ ∃ us, H' LF = some (.lst us) ∧ us.length = p ∧ DpAll K H3 us (((allT m).take p).map dInts)) ⟨same_new nLF, [], upd_same, rfl, .nil⟩ (fun p H' _ e => e.1.seq (sl eS)) ?_ ?_
    · rintro p x HA hx ⟨sA, us, eLF, lus, dus⟩
      have hp : p < zs.length := (List.getElem?_eq_some_iff.mp hx).1
      obtain ⟨v, hv, dv⟩ := dpa_get2 dz (i := p) (d := encL ((allT m).getD p [])) (by rw [List.getElem?_map, List.getElem?_eq_getElem (by omega), List.getD_eq_getElem?_getD, List.getElem?_eq_getElem (by omega)]; rfl)
      rw [hx] at hv
      cases hv
      obtain ⟨c, x1, x2, rfl, hc, d1, d2⟩ := dp_tup2 dv
      have hcA := same_seqT sA hc
      refine k_gtup hcA rfl ?_
      wtm_at "s"
      refine ⟨us, eLF, szl (by omega), same_mut sA nLF, us ++ [x2], upd_same, by simp [lus], ?_⟩
      rw [List.take_add_one, List.map_append, List.getElem?_eq_getElem (by omega)]
      refine dpa_app dus (.cons ?_ .nil)
      rw [List.getD_eq_getElem?_getD, List.getElem?_eq_getElem (by omega)] at d2
      exact d2
    · rintro HA ⟨sA, us, eLF, lus, dus⟩
      rw [lz, List.take_length] at dus
      have s0A := s2.trans (s3.trans sA)
      wtm_at "s"
      refine q LF us HA s0A ((s2.trans s3).free nLF) eLF (dpa_same sA dus) lT
abbrev sp_law_lots (K : PySem.W.Frag) : Sp := fun vs H Q E => ∃ v0, vs = [v0] ∧ pr_law_lots K v0 H Q E
theorem ok_law_lots (T : Txt K mg A) : FnOk P w K mg base CX0 1 A.a_law_lots A.d_law_lots ["_law_many"] (sp_law_lots K) := by
  refine T.F_law_lots.ok sc_law_lots (fun vs H Q E h => by obtain ⟨v0, rfl, _⟩ := h; rfl) (fun cdv A0 outer s H vs Q E hr h => ?_)
  obtain ⟨v0, rfl, h⟩ := h
  exact ⟨t_law_lots K, (pss_cons (ps_set (i := 1) sc_law_lots.nd rfl (Or.inl rfl) (pe_lst pa_nil))
      (pss_cons (ps_for PassesOwn.never rfl (pi_range1 (by rfl) T.z_range (pa_cons (pe_op op_shl pe_int (pv 0)) pa_nil)) (pg_name (i := 2) sc_law_lots.nd rfl (Or.inr rfl))
      (pss_cons (ps_setLc (i := 3) (own := [("_law_tie", 4)]) (by rfl) sc_law_lots.nd rfl rfl (sw_true rfl rfl rfl (by decide +kernel)) (pi_range1 (by rfl) T.z_range (pa_cons (pv 0) pa_nil)) (blkOk_by (own := [("_law_tie", 4)]) (N := ["_law_many", "_law_found", "_law_bits", "_law_lot", "_law_tie", "_law_size"]) (sc := defScope s_law_lots) (by decide +kernel)) (fun _ _ _ _ _ => (pg_name (i := 4) sc_law_lots.nd rfl (Or.inl rfl))) (fun _ _ _ _ _ => (pts_one (pt_cmpR op_eq (pe_op op_and (pe_op op_shr (pv 2) (pv 4)) pe_int) pe_int (nomark _)))) (fun _ _ _ _ _ => (pv 4)))
      (pss_one (ps_if (PW.pt (pw_and (pt_cmpR op_gt (pe_callB q_len (by rfl) T.z_len (by decide +kernel) (pa_cons (pv 3) pa_nil)) pe_int (nomark _)) (pw_and1 (pt_cmpR op_eq (pe_op op_mod (pe_callB q_len (by rfl) T.z_len (by decide +kernel) (pa_cons (pv 3) pa_nil)) pe_int) pe_int (nomark _))))) (pss_one (ps_expr (pe_bm PySem.F.plainAttrs_list PySem.F.slot_list_append PySem.F.type_list_append mt_append (pv 1) (pa_cons (pe_tup (pa_cons (pe_callB q_len (by rfl) T.z_len (by decide +kernel) (pa_cons (pv 3) pa_nil)) (pa_cons (pv 3) pa_nil))) pa_nil)))) pss_nil))))
      (pss_one (ps_ret (pe_lc (own := [("_law_size", 5), ("_law_lot", 3)]) (by rfl) sc_law_lots.nd (pi_list (pe_callB (cr_sortD hr.units) (by rfl) T.z_sorted (by decide +kernel) (pa_cons (pv 1) pa_nil))) (blkOk_by (own := [("_law_size", 5), ("_law_lot", 3)]) (N := ["_law_many", "_law_found", "_law_bits", "_law_lot", "_law_tie", "_law_size"]) (sc := defScope s_law_lots) (by decide +kernel)) (fun _ _ _ _ _ => (pg_tup (by rfl) (pgs_cons (pg_name (i := 5) sc_law_lots.nd rfl (Or.inl rfl)) (pgs_cons (pg_name (i := 3) sc_law_lots.nd rfl (Or.inl rfl)) pgs_nil)))) (fun _ _ _ _ _ => pts_nil) (fun _ _ _ _ _ => (pv 3))))))), pure_law_lots h⟩


def pr_law_bound (K : PySem.W.Frag) (v0 v1 : V) (H : Hp) (Q : VK) (_ : XK) : Prop := ∃ n ps ns, Dp K H v0 (dCr n ps) ∧ CrOk n ps ∧ Dp K H v1 (dInts ns) ∧ 3 ≤ ns.length ∧ ns.length ≤ 100 ∧ ns.length % 2 = 1 ∧ ∀ H', Same H H' → Q (.int (bnd ps ns)) H'
def t_law_bound (K : PySem.W.Frag) : TS :=
  (tSeq (tAsg (tCB (rLenX K) (tCons (tLc (iList K (tOp (rIxT K) (tVar 0) (tC (.int 1)))) (gName 4) (tAnd (tTest (tOp xLt (tOp (rIxT K) (tVar 4) (tC (.int 0))) (tOp (rIxT K) (tVar 4) (tC (.int 1))))) (tAnd (tTest (tOp (rIn K false) (tOp (rIxT K) (tVar 4) (tC (.int 0))) (tVar 1))) (tTest (tOp (rIn K false) (tOp (rIxT K) (tVar 4) (tC (.int 1))) (tVar 1))))) (tVar 4) [4]) tNil)) (gName 2))
    (tSeq (tAsg (tOp xDiv (tOp xSub (tCB (rLenX K) (tCons (tVar 1) tNil)) (tC (.int 1))) (tC (.int 2))) (gName 3))
    (tRet (tOp xAdd (tOp xDiv (tVar 2) (tVar 3)) (tCB rIntOf (tCons (tOp xGt (tOp xMod (tVar 2) (tVar 3)) (tC (.int 0))) tNil))))))
theorem pure_law_bound {v0 v1 : V} {H : Hp} {Q : VK} {E : XK} (hh : pr_law_bound K v0 v1 H Q E) : t_law_bound K ⟨fun _ H' => Q .non H', Q, fun _ _ => False, fun _ _ => False⟩ [some v0, some v1, none, none, none] H := by
  obtain ⟨n, ps, ns, d0, ok, d1, l3, l100, lo, q⟩ := hh
  obtain ⟨a, b, ys, rfl, ha, hb, hys, ly⟩ := dp_cr d0
  obtain ⟨c, rfl, hc⟩ := dp_ints d1
  obtain ⟨k0, k1, k2, k3⟩ := id ok
  unfold t_law_bound
  wtm_at "s"
  refine lc_pure hb (ps.zip ys) (by simp; omega) (by simp; omega) (fun q => if inLot ns q.1 = true then some q.2 else none) ?_ (fun D H1 nD s1 eD => ?_)
  · intro j x p H'' hx hp sm2 R R0 h1 h2
    have hz := List.getElem?_zip_eq_some.mp hp
    obtain ⟨w, t, hw, rfl, ht⟩ := dpairs_get hys hx
    rw [hz.1] at hw
    cases hw
    have ep : p.2 = .ref t := by have := hz.2; rw [hx] at this; exact (Option.some.inj this).symm
    have ht' := same_seqT sm2 ht
    have hc' := sm2.seq hc
    obtain ⟨w0, w1, w2⟩ := k3 p.1 (List.mem_of_getElem? hz.1)
    have yes : p.1.1 < p.1.2 → p.1.1 ∈ ns → p.1.2 ∈ ns → inLot ns p.1 = true := fun a b c => decide_eq_true ⟨by omega, b, c⟩
    have no : ¬ (p.1.1 < p.1.2 ∧ p.1.1 ∈ ns ∧ p.1.2 ∈ ns) → ¬ inLot ns p.1 = true := fun h z => by
      obtain ⟨a, b, c⟩ := of_decide_eq_true z
      exact h ⟨by omega, b, c⟩
    wtm_at "s"
    refine k_it (fun z1 => ?_) (fun z1 => ?_)
    · wtm_at "s"
      refine k_it (fun z2 => ?_) (fun z2 => ?_)
      · wtm_at "s"
        refine k_it (fun z3 => ?_) (fun z3 => ?_)
        · wtm_at "s"
          exact h1 _ (by rw [if_pos (yes z1 z2 z3), ep])
        · wtm_at "s"
          exact h2 (if_neg (no fun h => z3 h.2.2))
      · wtm_at "s"
        exact h2 (if_neg (no fun h => z2 h.2.1))
    · wtm_at "s"
      exact h2 (if_neg (no fun h => z1 h.1))
  have hl : ((ps.zip ys).filterMap fun q => if inLot ns q.1 = true then some q.2 else none).length = within ps ns := by
    rw [zip_fm_len (inLot ns) ps ys ly, List.countP_eq_length_filter]; rfl
  have wl : within ps ns ≤ 60 := Nat.le_trans (List.length_filter_le _ _) k2
  wtm_at "s"
  rw [hl]
  wtm_at "s"
  have h2 : ((ns.length : Nat) : Int) - 1 = 2 * ((ns.length : Int) / 2) := by omega
  have hh : (((ns.length : Nat) : Int) - 1) / 2 = (ns.length : Int) / 2 := by omega
  rw [hh]
  have hp : 0 < (ns.length : Int) / 2 := by omega
  generalize hH : (ns.length : Int) / 2 = hf at hp
  have hf100 : hf ≤ 100 := by omega
  have e := half_up (w := ((within ps ns : Nat) : Int)) hp (by omega)
  have eb : bnd ps ns = ((within ps ns : Nat) : Int) / hf + (if ((within ps ns : Nat) : Int) % hf > 0 then 1 else 0) := by
    unfold bnd
    rw [hH, e]
  wtm_at "s"
  have := q H1 s1
  rw [eb] at this
  have e3 : (if decide (0 < ((within ps ns : Nat) : Int) % hf) = true then (1 : Int) else 0) = if ((within ps ns : Nat) : Int) % hf > 0 then 1 else 0 := by
    by_cases c : ((within ps ns : Nat) : Int) % hf > 0
    · rw [if_pos c, if_pos (decide_eq_true c)]
    · rw [if_neg c, if_neg (by rw [decide_eq_true_iff]; exact c)]
  rw [e3]
  exact this
abbrev sp_law_bound (K : PySem.W.Frag) : Sp := fun vs H Q E => ∃ v0 v1, vs = [v0, v1] ∧ pr_law_bound K v0 v1 H Q E
theorem ok_law_bound (T : Txt K mg A) : FnOk P w K mg base CX0 1 A.a_law_bound A.d_law_bound ["_law_crossing_here", "_law_lot"] (sp_law_bound K) := by
  refine T.F_law_bound.ok sc_law_bound (fun vs H Q E h => by obtain ⟨v0, v1, rfl, _⟩ := h; rfl) (fun cdv A0 outer s H vs Q E hr h => ?_)
  obtain ⟨v0, v1, rfl, h⟩ := h
  exact ⟨t_law_bound K, (pss_cons (ps_set (i := 2) sc_law_bound.nd rfl (Or.inl rfl) (pe_callB q_len (by rfl) T.z_len (by decide +kernel) (pa_cons (pe_lc (own := [("_law_pair", 4)]) (by rfl) sc_law_bound.nd (pi_list (pe_ix ix_tup (pv 0) pe_int (fun _ _ => rfl))) (blkOk_by (own := [("_law_pair", 4)]) (N := ["_law_crossing_here", "_law_lot", "_law_within", "_law_half", "_law_pair"]) (sc := defScope s_law_bound) (by decide +kernel)) (fun _ _ _ _ _ => (pg_name (i := 4) sc_law_bound.nd rfl (Or.inl rfl))) (fun _ _ _ _ _ => (pts_one (PW.pt (pw_and (pt_cmpR op_lt (pe_ix ix_tup (pv 4) pe_int (fun _ _ => rfl)) (pe_ix ix_tup (pv 4) pe_int (fun _ _ => rfl)) (nomark _)) (pw_and (pt_cmpR op_in_seq (pe_ix ix_tup (pv 4) pe_int (fun _ _ => rfl)) (pv 1) (by rfl)) (pw_and1 (pt_cmpR op_in_seq (pe_ix ix_tup (pv 4) pe_int (fun _ _ => rfl)) (pv 1) (by rfl)))))))) (fun _ _ _ _ _ => (pv 4))) pa_nil)))
      (pss_cons (ps_set (i := 3) sc_law_bound.nd rfl (Or.inl rfl) (pe_op op_fdiv (pe_op op_sub (pe_callB q_len (by rfl) T.z_len (by decide +kernel) (pa_cons (pv 1) pa_nil)) pe_int) pe_int))
      (pss_one (ps_ret (pe_op op_add (pe_op op_fdiv (pv 2) (pv 3)) (pe_callTy q_intB (by rfl) T.z_int (by decide +kernel) (pa_cons (pe_cmpR op_gt (pe_op op_mod (pv 2) (pv 3)) pe_int (nomark _)) pa_nil))))))), pure_law_bound h⟩


def pr_law_due (K : PySem.W.Frag) (v0 : V) (H : Hp) (Q : VK) (_ : XK) : Prop := ∃ (many : Int) (ps : List (Int × Int)), Dp K H v0 (dCr many ps) ∧ CrOk many ps ∧ many ≤ 12 ∧ ∀ (L : Nat) p b H', IsLoad ps L → b = bestF many ps L → Same H H' → Dp K H' (.ref p) (.tuple [.int b.1, dInts b.2]) → Q (.ref p) H'
def t_law_due (K : PySem.W.Frag) : TS :=
  (tSeq (tAsg (tC (.int 0)) (gName 1))
    (tSeq (tFor (iRng1 (tCons (tOp (rIxT K) (tVar 0) (tC (.int 0))) tNil)) (gName 2)
      (tAsg (tCB rMax2 (tCons (tVar 1) (tCons (tCB (rLenX K) (tCons (tLc (iList K (tOp (rIxT K) (tVar 0) (tC (.int 1)))) (gName 6) (tTest (tOp (rIn K false) (tVar 2) (tVar 6))) (tVar 6) [6]) tNil)) tNil))) (gName 1)))
    (tSeq (tAsg (tTup (tCons (tVar 1) (tCons (tLst tNil) tNil))) (gName 3))
    (tSeq (tFor (iList K (tCall (sp_law_lots K) [] E0 (tCons (tOp (rIxT K) (tVar 0) (tC (.int 0))) tNil))) (gName 4)
      (tSeq (tAsg (tCall (sp_law_bound K) [] E0 (tCons (tVar 0) (tCons (tVar 4) tNil))) (gName 5))
    (tIfS (tTest (tOp xGt (tVar 5) (tOp (rIxT K) (tVar 3) (tC (.int 0))))) (tAsg (tTup (tCons (tVar 5) (tCons (tVar 4) tNil))) (gName 3)) tNext)))
    (tRet (tVar 3))))))
theorem pure_law_due {v0 : V} {H : Hp} {Q : VK} {E : XK} (hh : pr_law_due K v0 H Q E) : t_law_due K ⟨fun _ H' => Q .non H', Q, fun _ _ => False, fun _ _ => False⟩ [some v0, none, none, none, none, none, none] H := by
  obtain ⟨many, ps, d0, ok, m12, q⟩ := hh
  obtain ⟨a, b, ys, rfl, ha, hb, hys, ly⟩ := dp_cr d0
  obtain ⟨k0, k1, k2, k3⟩ := id ok
  unfold t_law_due
  wtm_at "s"
  refine forR (fun i σ' H' => Same H H' ∧ ∃ (L : Int) (k2 : Option V), 0 ≤ L ∧ (L = 0 ∨ ∃ v : Nat, v < i ∧ L = ((deg ps.length (Pj ps) (v : Int) : Nat) : Int)) ∧ (∀ v : Nat, v < i → ((deg ps.length (Pj ps) (v : Int) : Nat) : Int) ≤ L) ∧ σ' = [some (.ref a), some (.int L), k2, none, none, none, none]) ⟨Same.refl _, 0, _, by decide, .inl rfl, (fun v z => by omega), rfl⟩ ?_ ?_
  · rintro i σ' H' hi ⟨sm, L, k2', l0, l1, l2, rfl⟩
    have ha' := same_seqT sm ha
    have hb' := sm.seq hb
    rw [Int.zero_add]
    wtm_at "s"
    refine lc_pure hb' (ps.zip ys) (by simp; omega) (by simp; omega) (fun q => if On q.1 (i : Int) then some q.2 else none) ?_ (fun D3 H3 nD3 s3 e3 => ?_)
    · intro j x p H'' hx hp sm2 R R0 h1 h2
      have hz := List.getElem?_zip_eq_some.mp hp
      obtain ⟨d, hd1, hd2⟩ := dpa_get hys hx
      rw [List.getElem?_map, hz.1] at hd1
      cases hd1
      obtain ⟨c, rfl, hc⟩ := dp_pair hd2
      have hc' := same_seqT (sm.trans sm2) hc
      have ep : p.2 = .ref c := by have := hz.2; rw [hx] at this; exact (Option.some.inj this).symm
      wtm_at "s"
      refine k_inT2 hc' ?_
      wtm_at "s"
      refine k_it (fun d => ?_) (fun d => ?_)
      · wtm_at "s"
        exact h1 _ (by rw [if_pos (by unfold On; omega), ep])
      · exact h2 (if_neg (by unfold On; omega))
    wtm_at "s"
    rw [in_fm ly]
    refine ⟨sm.trans s3, _, _, ?_, ?_, ?_, rfl⟩
    · split <;> omega
    · split
      · exact .inr ⟨i, by omega, rfl⟩
      · rcases l1 with h | ⟨v, h1, h2⟩
        · exact .inl h
        · exact .inr ⟨v, by omega, h2⟩
    · intro v hv
      by_cases c : v = i
      · subst c; split <;> omega
      · have := l2 v (by omega); split <;> omega
  · rintro σ' H' ⟨sm, L, k2', l0, l1, l2, rfl⟩
    obtain ⟨N, rfl, hN⟩ := load_of ok (L := L) (l1.imp id fun ⟨v, h1, h2⟩ => ⟨v, by omega, h2⟩) (fun v hv => l2 v (by omega)) l0
    wtm_at "s"
    refine kL (by simp) (fun l1 H1 nl1 s1 e1 => ?_)
    wtm_at "s"
    refine kT (by simp) (fun t1 H2 nt1 s2 e2 => ?_)
    have s02 := sm.trans (s1.trans s2)
    have dB : Dp K H2 (.ref t1) (.tuple [.int (N : Nat), dInts []]) := .tup (stp e2) (.cons (.int _) (.cons (dp_of_ints (ns := []) (sl (s2 _ _ e1))) .nil))
    have ha2 := same_seqT s02 ha
    wtm_at "s"
    obtain ⟨m, hm⟩ : ∃ m : Nat, many = (m : Int) := ⟨many.toNat, by omega⟩
    refine ⟨_, rfl, m, by rw [hm], by omega, fun D zs H3 s3 nD eD dz lT => ?_⟩
    have s03 := s02.trans s3
    have lz : zs.length = (allT m).length := by rw [dpa_len dz, List.length_map]
    refine forL (sl eD) (fun i σ' H' => Same H3 H' ∧ ∃ (bp : Addr) (bb : Int × List Int) (k4 k5 : Option V), bb = ((allT m).take i).foldl (bestStep ps) ((N : Int), []) ∧ Dp K H' (.ref bp) (.tuple [.int bb.1, dInts bb.2]) ∧ σ' = [some (.ref a), some (.int (N : Nat)), k2', some (.ref bp), k4, k5, none]) ⟨Same.refl _, t1, _, _, _, rfl, dp_same s3 dB, rfl⟩ ?_ ?_ ?_
    · rintro i σ' H4 hi ⟨s4, _⟩
      exact s4.seq (sl eD)
    · rintro i x σ' H4 hx ⟨s4, bp, bb, k4, k5, hbb, dbb, rfl⟩
      have hi : i < zs.length := (List.getElem?_eq_some_iff.mp hx).1
      obtain ⟨v, hv, dv⟩ := dpa_get2 dz (i := i) (d := dInts ((allT m).getD i [])) (by rw [List.getElem?_map, List.getElem?_eq_getElem (by omega), List.getD_eq_getElem?_getD, List.getElem?_eq_getElem (by omega)]; rfl)
      rw [hx] at hv
      cases hv
      have hT : (allT m).getD i [] ∈ allT m := by rw [List.getD_eq_getElem?_getD, List.getElem?_eq_getElem (by omega)]; exact List.getElem_mem _
      obtain ⟨t1', t2', t3', t4'⟩ := allT_mem.mp hT
      have tl := pw_len t1' t2'
      have nx : ((allT m).take (i + 1)).foldl (bestStep ps) ((N : Int), []) = bestStep ps bb ((allT m).getD i []) := by
        rw [List.take_add_one, List.getElem?_eq_getElem (by omega), List.foldl_append, ← hbb, List.getD_eq_getElem?_getD, List.getElem?_eq_getElem (by omega)]
        rfl
      generalize (allT m).getD i [] = lot at dv hT t1' t2' t3' t4' tl nx
      wtm_at "s"
      refine ⟨_, _, rfl, many, ps, lot, dp_same (s03.trans s4) d0, ok, dp_same s4 dv, t3', by omega, t4', fun H5 s5 => ?_⟩
      obtain ⟨c, x1, x2, e1', hc, d1, d2⟩ := dp_tup2 (dp_same s5 dbb)
      cases e1'
      obtain rfl := dp_int d1
      wtm_at "s"
      refine k_it (fun c1 => ?_) (fun c1 => ?_)
      · wtm_at "s"
        refine kT (by simp) (fun t2 H6 nt2 s6 e6 => ?_)
        wtm_at "s"
        refine ⟨s4.trans (s5.trans s6), t2, bestStep ps bb lot, _, _, nx.symm, ?_, rfl⟩
        unfold bestStep
        rw [if_pos c1]
        exact .tup (stp e6) (.cons (.int _) (.cons (dp_same (s4.trans (s5.trans s6)) dv) .nil))
      · wtm_at "s"
        refine ⟨s4.trans s5, bp, bestStep ps bb lot, _, _, nx.symm, ?_, rfl⟩
        unfold bestStep
        rw [if_neg c1]
        exact dp_same s5 dbb
    · rintro σ' H4 ⟨s4, bp, bb, k4, k5, hbb, dbb, rfl⟩
      rw [lz, List.take_length] at hbb
      wtm_at "s"
      refine q N bp bb H4 hN ?_ (s03.trans s4) dbb
      rw [hbb, best_all, hm]
abbrev sp_law_due (K : PySem.W.Frag) : Sp := fun vs H Q E => ∃ v0, vs = [v0] ∧ pr_law_due K v0 H Q E
theorem ok_law_due (T : Txt K mg A) : FnOk P w K mg base CX0 2 A.a_law_due A.d_law_due ["_law_crossing_here"] (sp_law_due K) := by
  refine T.F_law_due.ok sc_law_due (fun vs H Q E h => by obtain ⟨v0, rfl, _⟩ := h; rfl) (fun cdv A0 outer s H vs Q E hr h => ?_)
  obtain ⟨v0, rfl, h⟩ := h
  exact ⟨t_law_due K, (pss_cons (ps_set (i := 1) sc_law_due.nd rfl (Or.inl rfl) pe_int)
      (pss_cons (ps_for PassesOwn.never rfl (pi_range1 (by rfl) T.z_range (pa_cons (pe_ix ix_tup (pv 0) pe_int (fun _ _ => rfl)) pa_nil)) (pg_name (i := 2) sc_law_due.nd rfl (Or.inr rfl))
      (pss_one (ps_set (i := 1) sc_law_due.nd rfl (Or.inl rfl) (pe_callB (q_max2 (by rfl)) (by rfl) T.z_max (by decide +kernel) (pa_cons (pv 1) (pa_cons (pe_callB q_len (by rfl) T.z_len (by decide +kernel) (pa_cons (pe_lc (own := [("_law_pair", 6)]) (by rfl) sc_law_due.nd (pi_list (pe_ix ix_tup (pv 0) pe_int (fun _ _ => rfl))) (blkOk_by (own := [("_law_pair", 6)]) (N := ["_law_crossing_here", "_law_greatest", "_law_tie", "_law_due_here", "_law_lot", "_law_bound_here", "_law_pair"]) (sc := defScope s_law_due) (by decide +kernel)) (fun _ _ _ _ _ => (pg_name (i := 6) sc_law_due.nd rfl (Or.inl rfl))) (fun _ _ _ _ _ => (pts_one (pt_cmpR op_in_seq (pv 2) (pv 6) (by rfl)))) (fun _ _ _ _ _ => (pv 6))) pa_nil)) pa_nil))))))
      (pss_cons (ps_set (i := 3) sc_law_due.nd rfl (Or.inl rfl) (pe_tup (pa_cons (pv 1) (pa_cons (pe_lst pa_nil) pa_nil))))
      (pss_cons (ps_for PassesOwn.never rfl (pi_list (pe_call (ok_law_lots T) (hr.mono (by decide)) (by rfl) T.g_law_lots T.F_law_lots.kp T.b_law_lots .nil pass0 (pa_cons (pe_ix ix_tup (pv 0) pe_int (fun _ _ => rfl)) pa_nil))) (pg_name (i := 4) sc_law_due.nd rfl (Or.inl rfl))
      (pss_cons (ps_set (i := 5) sc_law_due.nd rfl (Or.inl rfl) (pe_call (ok_law_bound T) (hr.mono (by decide)) (by rfl) T.g_law_bound T.F_law_bound.kp T.b_law_bound .nil pass0 (pa_cons (pv 0) (pa_cons (pv 4) pa_nil))))
      (pss_one (ps_if (pt_cmpR op_gt (pv 5) (pe_ix ix_tup (pv 3) pe_int (fun _ _ => rfl)) (nomark _)) (pss_one (ps_set (i := 3) sc_law_due.nd rfl (Or.inl rfl) (pe_tup (pa_cons (pv 5) (pa_cons (pv 4) pa_nil))))) pss_nil))))
      (pss_one (ps_ret (pv 3))))))), pure_law_due h⟩


/-! ### types of data -/
def tyD : PyData → String
  | .none => "NoneType"
  | .bool _ => "bool"
  | .int _ => "int"
  | .str _ => "str"
  | .list _ => "list"
  | .tuple _ => "tuple"
  | .dict _ => "dict"
def wholeD : PyData → Bool
  | .int _ => true
  | _ => false
def isD (t : String) (d : PyData) : Bool := decide (tyD d = t)
theorem ty_tup {K : PySem.W.Frag} {H : Hp} {p : Addr} {xs : List V} (h : SqT K H p xs) : ∃ t, t = "tuple" ∧ TyX K H (.ref p) (.type t) := by
  rcases h with (h | ⟨o, h⟩) | ⟨o, its, n, h1, h2, h3⟩
  · exact ⟨_, rfl, .base (.tup h)⟩
  · exact ⟨_, rfl, .fTuple h⟩
  · exact ⟨_, rfl, .kTuple h1 h2⟩
section
variable {K : PySem.W.Frag} {H : Hp} {Q : VK} {v : V} {d : PyData}
theorem dp_ty (h : Dp K H v d) : TyX K H v (.type (tyD d)) := by
  cases h with
  | non => exact .base .non
  | bl b => exact .base (.bl b)
  | int i => exact .base (.int i)
  | str s => exact .base (.str s)
  | lst h _ => exact ty_list h
  | tup h _ => obtain ⟨t, rfl, ty⟩ := ty_tup h; exact ty
theorem dp_tyIn (h : Dp K H v d) : tyD d ∈ ["NoneType", "bool", "int", "str", "list", "tuple"] := by cases h <;> simp [tyD]
theorem kb_tuple : ∀ s ∈ ["NoneType", "bool", "int", "str", "list", "tuple"], kitB s "tuple" = some (decide (s = "tuple")) := by decide +kernel
theorem kb_str : ∀ s ∈ ["NoneType", "bool", "int", "str", "list", "tuple"], kitB s "str" = some (decide (s = "str")) := by decide +kernel
theorem kb_list : ∀ s ∈ ["NoneType", "bool", "int", "str", "list", "tuple"], kitB s "list" = some (decide (s = "list")) := by decide +kernel
theorem kb_bool : ∀ s ∈ ["NoneType", "bool", "int", "str", "list", "tuple"], kitB s "bool" = some (decide (s = "bool")) := by decide +kernel
theorem kb_dict : ∀ s ∈ ["NoneType", "bool", "int", "str", "list", "tuple"], kitB s "dict" = some false := by decide +kernel
theorem kb_int : ∀ s ∈ ["NoneType", "bool", "int", "str", "list", "tuple"], kitB s "int" = some (decide (s = "int") || decide (s = "bool")) := by decide +kernel
theorem k_isiTupD (h : Dp K H v d) (q : Q (.bl (isD "tuple" d)) H) : rIsi K [v, .ty "tuple"] H Q := k_isi (dp_ty h) (kb_tuple _ (dp_tyIn h)) q
theorem k_isiStrD (h : Dp K H v d) (q : Q (.bl (isD "str" d)) H) : rIsi K [v, .ty "str"] H Q := k_isi (dp_ty h) (kb_str _ (dp_tyIn h)) q
theorem k_isiListD (h : Dp K H v d) (q : Q (.bl (isD "list" d)) H) : rIsi K [v, .ty "list"] H Q := k_isi (dp_ty h) (kb_list _ (dp_tyIn h)) q
theorem k_isiDictD (h : Dp K H v d) (q : Q (.bl false) H) : rIsi K [v, .ty "dict"] H Q := k_isi (dp_ty h) (kb_dict _ (dp_tyIn h)) q
theorem k_isiBoolD (h : Dp K H v d) (q : Q (.bl (isD "bool" d)) H) : rIsi K [v, .ty "bool"] H Q := k_isi (dp_ty h) (kb_bool _ (dp_tyIn h)) q
theorem k_isiIntD (h : Dp K H v d) (q : Q (.bl (isD "int" d || isD "bool" d)) H) : rIsi K [v, .ty "int"] H Q := k_isi (dp_ty h) (kb_int _ (dp_tyIn h)) q
end
theorem k_isiD {K : PySem.W.Frag} {H : Hp} {Q : VK} {p : Addr} {kvs : List (Key × V)} (e : H p = some (.dK kvs)) (h : Q (.bl true) H) : rIsi K [.ref p, .ty "dict"] H Q := k_isi (.base (.dK e)) (by decide +kernel) h
theorem k_isiDT {K : PySem.W.Frag} {H : Hp} {Q : VK} {p : Addr} {xs : List V} (e : SqT K H p xs) (h : Q (.bl false) H) : rIsi K [.ref p, .ty "dict"] H Q := by
  obtain ⟨t, rfl, ty⟩ := ty_tup e
  exact k_isi ty (by decide +kernel) h
theorem k_isiTT {K : PySem.W.Frag} {H : Hp} {Q : VK} {p : Addr} {xs : List V} (e : SqT K H p xs) (h : Q (.bl true) H) : rIsi K [.ref p, .ty "tuple"] H Q := by
  obtain ⟨t, rfl, ty⟩ := ty_tup e
  exact k_isi ty (by decide +kernel) h
theorem k_isiSI {K : PySem.W.Frag} {H : Hp} {Q : VK} {i : Int} (h : Q (.bl false) H) : rIsi K [.int i, .ty "str"] H Q := k_isi (.base (.int i)) (by decide +kernel) h
def pr_law_whole (K : PySem.W.Frag) (v0 : V) (H : Hp) (Q : VK) (_ : XK) : Prop := ∃ i : Int, v0 = .int i ∧ Q (.bl true) H
def t_law_whole (K : PySem.W.Frag) : TS :=
  (tRet (tAndV (tCB (rIsi K) (tCons (tVar 0) (tCons (tC (.ty "int")) tNil))) (tNotV (tCB (rIsi K) (tCons (tVar 0) (tCons (tC (.ty "bool")) tNil))))))
theorem pure_law_whole {v0 : V} {H : Hp} {Q : VK} {E : XK} (hh : pr_law_whole K v0 H Q E) : t_law_whole K ⟨fun _ H' => Q .non H', Q, fun _ _ => False, fun _ _ => False⟩ [some v0] H := by
  obtain ⟨i, rfl, q⟩ := hh
  unfold t_law_whole
  wtm_at "s"
  exact q
abbrev sp_law_whole (K : PySem.W.Frag) : Sp := fun vs H Q E => ∃ v0, vs = [v0] ∧ pr_law_whole K v0 H Q E
theorem ok_law_whole (T : Txt K mg A) : FnOk P w K mg base CX0 1 A.a_law_whole A.d_law_whole ["_law_found"] (sp_law_whole K) := by
  refine T.F_law_whole.ok sc_law_whole (fun vs H Q E h => by obtain ⟨v0, rfl, _⟩ := h; rfl) (fun cdv A0 outer s H vs Q E hr h => ?_)
  obtain ⟨v0, rfl, h⟩ := h
  exact ⟨t_law_whole K, (pss_one (ps_ret (pe_and (pe_callB q_isi (by rfl) T.z_isinstance (by decide +kernel) (pa_cons (pv 0) (pa_cons (pe_bltn (v := .ty "int") (by rfl) T.z_int (by decide +kernel) rfl) pa_nil))) (pe_one (pe_not (pe_callB q_isi (by rfl) T.z_isinstance (by decide +kernel) (pa_cons (pv 0) (pa_cons (pe_bltn (v := .ty "bool") (by rfl) T.z_bool (by decide +kernel) rfl) pa_nil)))))))), pure_law_whole h⟩
def pr_law_same (K : PySem.W.Frag) (v0 v1 : V) (H : Hp) (Q : VK) (_ : XK) : Prop := ∃ (i : Int) (ns : List Int), Dp K H v0 (.tuple [.int i, dInts ns]) ∧ Dp K H v1 (.tuple [.int i, dInts ns]) ∧ ns.length ≤ 100 ∧ ∀ H', Same H H' → Q (.bl true) H'
def t_law_same (K : PySem.W.Frag) : TS :=
  (tSeq (tIfS (tOr (tNot (tB (tCB (rIsi K) (tCons (tVar 0) (tCons (tC (.ty "tuple")) tNil))))) (tOr (tTest (tOp rNe (tCB (rLenX K) (tCons (tVar 0) tNil)) (tC (.int 2)))) (tOr (tNot (tB (tCall (sp_law_whole K) [] E0 (tCons (tOp (rIxT K) (tVar 0) (tC (.int 0))) tNil)))) (tNot (tB (tCB (rIsi K) (tCons (tOp (rIxT K) (tVar 0) (tC (.int 1))) (tCons (tC (.ty "list")) tNil)))))))) (tRet (tC (.bl false))) tNext)
    (tRet (tAndV (tOp rEq (tCB (rLenX K) (tCons (tLc (iList K (tOp (rIxT K) (tVar 0) (tC (.int 1)))) (gName 2) (tNot (tB (tCall (sp_law_whole K) [] E0 (tCons (tVar 2) tNil)))) (tVar 2) [2]) tNil)) (tC (.int 0))) (tOp (rEqD K) (tVar 0) (tVar 1)))))
theorem pure_law_same {v0 v1 : V} {H : Hp} {Q : VK} {E : XK} (hh : pr_law_same K v0 v1 H Q E) : t_law_same K ⟨fun _ H' => Q .non H', Q, fun _ _ => False, fun _ _ => False⟩ [some v0, some v1, none] H := by
  obtain ⟨i, ns, d0, d1, l100, q⟩ := hh
  obtain ⟨a, x1, x2, rfl, ha, dx1, dx2⟩ := dp_tup2 d0
  obtain rfl := dp_int dx1
  obtain ⟨b, rfl, hb⟩ := dp_ints dx2
  unfold t_law_same
  wtm_at "s"
  refine k_isiTupD d0 ?_
  rw [show isD "tuple" (.tuple [.int i, dInts ns]) = true from rfl]
  wtm_at "s"
  refine k_lenT ha ?_
  rw [show ((([V.int i, V.ref b] : List V).length : Nat) : Int) = 2 from rfl]
  wtm_at "s"
  refine ⟨_, rfl, i, rfl, ?_⟩
  wtm_at "s"
  refine lc_grow hb ns (by simp) (by omega) (fun _ => none) ?_ (fun D H1 nD s1 eD => ?_)
  · intro j x h H' hx hh sm R R0 g1 g0
    rw [List.getElem?_map, hh] at hx
    cases hx
    wtm_at "s"
    refine ⟨_, rfl, h, rfl, ?_⟩
    wtm_at "s"
    exact g0 _ rfl (Same.refl _)
  have en : (ns.filterMap fun _ => (none : Option V)) = [] := by simp
  rw [en] at eD
  wtm_at "s"
  refine k_eqD1 (n := 2) (dp_same s1 d0) (dp_same s1 d1) (sh_two sh_int (sh_ints _)) (by decide) ?_
  exact q H1 s1
abbrev sp_law_same (K : PySem.W.Frag) : Sp := fun vs H Q E => ∃ v0 v1, vs = [v0, v1] ∧ pr_law_same K v0 v1 H Q E
theorem ok_law_same (T : Txt K mg A) : FnOk P w K mg base CX0 2 A.a_law_same A.d_law_same ["_law_found", "_law_due_here"] (sp_law_same K) := by
  refine T.F_law_same.ok sc_law_same (fun vs H Q E h => by obtain ⟨v0, v1, rfl, _⟩ := h; rfl) (fun cdv A0 outer s H vs Q E hr h => ?_)
  obtain ⟨v0, v1, rfl, h⟩ := h
  exact ⟨t_law_same K, (pss_cons (ps_if (PW.pt (pw_or (pt_not (pt_val (pe_callB q_isi (by rfl) T.z_isinstance (by decide +kernel) (pa_cons (pv 0) (pa_cons (pe_bltn (v := .ty "tuple") (by rfl) T.z_tuple (by decide +kernel) rfl) pa_nil))))) (pw_or (pt_cmpR op_ne (pe_callB q_len (by rfl) T.z_len (by decide +kernel) (pa_cons (pv 0) pa_nil)) pe_int (nomark _)) (pw_or (pt_not (pt_val (pe_call (ok_law_whole T) (hr.mono (by decide)) (by rfl) T.g_law_whole T.F_law_whole.kp T.b_law_whole .nil pass0 (pa_cons (pe_ix ix_tup (pv 0) pe_int (fun _ _ => rfl)) pa_nil)))) (pw_or1 (pt_not (pt_val (pe_callB q_isi (by rfl) T.z_isinstance (by decide +kernel) (pa_cons (pe_ix ix_tup (pv 0) pe_int (fun _ _ => rfl)) (pa_cons (pe_bltn (v := .ty "list") (by rfl) T.z_list (by decide +kernel) rfl) pa_nil)))))))))) (pss_one (ps_ret pe_bl)) pss_nil)
      (pss_one (ps_ret (pe_and (pe_cmpR op_eq (pe_callB q_len (by rfl) T.z_len (by decide +kernel) (pa_cons (pe_lc (own := [("_law_tie", 2)]) (by rfl) sc_law_same.nd (pi_list (pe_ix ix_tup (pv 0) pe_int (fun _ _ => rfl))) (blkOk_by (own := [("_law_tie", 2)]) (N := ["_law_found", "_law_due_here", "_law_tie"]) (sc := defScope s_law_same) (by decide +kernel)) (fun _ _ _ _ _ => (pg_name (i := 2) sc_law_same.nd rfl (Or.inl rfl))) (fun _ _ _ _ _ => (pts_one (pt_not (pt_val (pe_call (ok_law_whole T) (hr.mono (by decide)) (by rfl) T.g_law_whole T.F_law_whole.kp T.b_law_whole .nil pass0 (pa_cons (pv 2) pa_nil)))))) (fun _ _ _ _ _ => (pv 2))) pa_nil)) pe_int (nomark _)) (pe_one (pe_cmpR (op_eqD hr.units) (pv 0) (pv 1) (nomark _))))))), pure_law_same h⟩


theorem not_in3 {p a b c : Addr} (h1 : p ∉ [a, b]) (h2 : p ≠ c) : p ∉ [a, b, c] := by
  intro z
  simp only [List.mem_cons, List.not_mem_nil, or_false] at z h1
  rcases z with z | z | z
  · exact h1 (.inl z)
  · exact h1 (.inr z)
  · exact h2 z
def pr_law_crossing (K : PySem.W.Frag) (v0 : V) (H : Hp) (Q : VK) (_ : XK) : Prop := ∃ (pu ce : Addr) (n : Nat) (t : Int), v0 = .ref pu ∧ Pu H pu ce n t ∧ t < 700000 ∧ ∀ p many ps t' H', Pu H' pu ce n t' → t' ≤ t + 1000 → Same (hid [pu, ce] H) (hid [pu, ce] H') → Dp K (hid [pu, ce] H') (.ref p) (dCr many ps) → CrOk many ps → many ≤ 12 → Q (.ref p) H'
def t_law_crossing (K : PySem.W.Frag) : TS :=
  (tSeq (tAsg (tCall (sp_law_draw K) [] E0 (tCons (tVar 0) (tCons (tC (.int 8)) tNil))) (gName 1))
    (tSeq (tIfS (tTest (tOp rEq (tCall (sp_law_draw K) [] E0 (tCons (tVar 0) (tCons (tC (.int 8)) tNil))) (tC (.int 1)))) (tAsg (tOp (rIxL K) (tLst (tCons (tC (.int 9)) (tCons (tC (.int 8)) (tCons (tC (.int 9)) (tCons (tC (.int 12)) tNil))))) (tCall (sp_law_draw K) [] E0 (tCons (tVar 0) (tCons (tC (.int 4)) tNil)))) (gName 1)) tNext)
    (tSeq (tAsg (tCall (sp_law_draw K) [] E0 (tCons (tVar 0) (tCons (tC (.int 4)) tNil))) (gName 2))
    (tSeq (tAsg (tOp (rIxL K) (tLst (tCons (tC (.int 3)) (tCons (tC (.int 5)) tNil))) (tCall (sp_law_draw K) [] E0 (tCons (tVar 0) (tCons (tC (.int 2)) tNil)))) (gName 3))
    (tSeq (tAsg (tLst tNil) (gName 4))
    (tSeq (tFor (iRng1 (tCons (tOp xMul (tCall (sp_law_draw K) [] E0 (tCons (tVar 0) (tCons (tOp (rIxL K) (tLst (tCons (tC (.int 10)) (tCons (tC (.int 61)) tNil))) (tCall (sp_law_draw K) [] E0 (tCons (tVar 0) (tCons (tC (.int 2)) tNil)))) tNil))) (tCB rIntOf (tCons (tOp xGt (tVar 1) (tC (.int 0))) tNil))) tNil)) (gName 5)
      (tSeq (tAsg (tCall (sp_law_draw K) [] E0 (tCons (tVar 0) (tCons (tVar 1) tNil))) (gName 6))
    (tSeq (tAsg (tCall (sp_law_draw K) [] E0 (tCons (tVar 0) (tCons (tVar 1) tNil))) (gName 7))
    (tSeq (tIfS (tAnd (tTest (tOp xGt (tVar 2) (tC (.int 0)))) (tTest (tOp xGt (tCall (sp_law_draw K) [] E0 (tCons (tVar 0) (tCons (tC (.int 6)) tNil))) (tC (.int 0))))) (tSeq (tAsg (tCB rMin2 (tCons (tOp xMod (tVar 6) (tVar 3)) (tCons (tOp xSub (tVar 1) (tC (.int 1))) tNil))) (gName 6))
    (tAsg (tCB rMin2 (tCons (tOp xMod (tVar 7) (tVar 3)) (tCons (tOp xSub (tVar 1) (tC (.int 1))) tNil))) (gName 7))) tNext)
    (tSeq (tIfS (tAnd (tTest (tOp rEq (tVar 2) (tC (.int 3)))) (tAnd (tTest (tOp xGt (tVar 1) (tC (.int 5)))) (tTest (tOp rEq (tOp xMod (tVar 5) (tC (.int 2))) (tC (.int 1)))))) (tSeq (tAsg (tOp xSub (tOp xSub (tVar 1) (tC (.int 1))) (tOp xMod (tVar 6) (tC (.int 3)))) (gName 6))
    (tAsg (tOp xSub (tOp xSub (tVar 1) (tC (.int 1))) (tOp xMod (tVar 7) (tC (.int 3)))) (gName 7))) tNext)
    (tDrop (tBM K "list" rAppend (tVar 4) (tCons (tTup (tCons (tCB rMin2 (tCons (tVar 6) (tCons (tVar 7) tNil))) (tCons (tCB rMax2 (tCons (tVar 6) (tCons (tVar 7) tNil))) tNil))) tNil))))))))
    (tRet (tTup (tCons (tVar 1) (tCons (tVar 4) tNil))))))))))
theorem pure_law_crossing {v0 : V} {H : Hp} {Q : VK} {E : XK} (hh : pr_law_crossing K v0 H Q E) : t_law_crossing K ⟨fun _ H' => Q .non H', Q, fun _ _ => False, fun _ _ => False⟩ [some v0, none, none, none, none, none, none, none] H := by
  obtain ⟨pu, ce, n, t, rfl, L, ht, q⟩ := hh
  unfold t_law_crossing
  wtm_at "s"
  refine ⟨_, _, rfl, pu, ce, n, t, 8, rfl, rfl, L, by omega, by decide, by decide, fun m0 H1 m00 m01 L1 S1 => ?_⟩
  refine k_gname (seqO (fun σ' H' => ∃ m t', σ' = [some (.ref pu), some (.int m), none, none, none, none, none, none] ∧ Pu H' pu ce n t' ∧ t' ≤ t + 3 ∧ Same (hid [pu, ce] H) (hid [pu, ce] H') ∧ 0 ≤ m ∧ m ≤ 12) ?_ (fun nx1 go1 => ?_))
  rotate_left
  · wtm_at "s"
    refine ⟨_, _, rfl, pu, ce, n, _, 8, rfl, rfl, L1, by omega, by decide, by decide, fun r H2 r0 r1 L2 S2 => ?_⟩
    wtm_at "s"
    refine k_it (fun c => ?_) (fun c => ?_)
    · wtm_at "s"
      refine kL (by simp) (fun l H3 nl s3 e3 => ?_)
      have nl' := L2.fresh nl
      wtm_at "s"
      refine ⟨_, _, rfl, pu, ce, n, _, 4, rfl, rfl, L2.same s3, by omega, by decide, by decide, fun r2 H4 r20 r21 L4 S4 => ?_⟩
      refine k_ixI (ns := [9, 8, 9, 12]) (sl (keeps S4 e3 nl')) r20 (by simpa using r21) ?_
      have hx := getD_memI (ns := [9, 8, 9, 12]) r20 (by simpa using r21)
      generalize ([9, 8, 9, 12] : List Int).getD r2.toNat 0 = m at hx ⊢
      wtm_at "s"
      refine go1 _ _ ⟨m, _, rfl, L4, by omega, S1.trans (S2.trans ((hid_mono s3).trans S4)), ?_, ?_⟩ <;> (simp only [List.mem_cons, List.not_mem_nil, or_false] at hx; omega)
    · wtm_at "s"
      exact go1 _ _ ⟨m0, _, rfl, L2, by omega, S1.trans S2, m00, by omega⟩
  clear L1 S1 m00 m01 m0 H1
  rintro σ' H1 ⟨m, t1, rfl, L1, ht1, S1, m0, m12⟩
  wtm_at "s"
  refine ⟨_, _, rfl, pu, ce, n, t1, 4, rfl, rfl, L1, by omega, by decide, by decide, fun w H2 w0 w1 L2 S2 => ?_⟩
  wtm_at "s"
  refine kL (by simp) (fun l H3 nl s3 e3 => ?_)
  have nl' := L2.fresh nl
  wtm_at "s"
  refine ⟨_, _, rfl, pu, ce, n, _, 2, rfl, rfl, L2.same s3, by omega, by decide, by decide, fun r2 H4 r20 r21 L4 S4 => ?_⟩
  refine k_ixI (ns := [3, 5]) (sl (keeps S4 e3 nl')) r20 (by simpa using r21) ?_
  have hz := getD_memI (ns := [3, 5]) r20 (by simpa using r21)
  have hz2 : ([3, 5] : List Int).getD r2.toNat 0 = 3 ∨ ([3, 5] : List Int).getD r2.toNat 0 = 5 := by
    simpa only [List.mem_cons, List.not_mem_nil, or_false] using hz
  generalize ([3, 5] : List Int).getD r2.toNat 0 = sz at hz2 ⊢
  clear hz
  have S04 := S1.trans (S2.trans ((hid_mono s3).trans S4))
  clear S2 S4 s3 S1 L1 L2 e3 nl nl'
  wtm_at "s"
  refine kL (by simp) (fun D H5 nD s5 eD => ?_)
  have nD' := L4.fresh nD
  have nD0 : H D = none := fresh_hid S04 nD nD'
  have fr : hid [pu, ce] H D = none := by rw [hid_ne nD']; exact nD0
  have S05 := S04.trans (hid_mono s5)
  have L5 := L4.same s5
  wtm_at "s"
  refine kL (by simp) (fun l2 H6 nl2 s6 e6 => ?_)
  have nl2' := L5.fresh nl2
  wtm_at "s"
  refine ⟨_, _, rfl, pu, ce, n, _, 2, rfl, rfl, L5.same s6, by omega, by decide, by decide, fun r3 H7 r30 r31 L7 S7 => ?_⟩
  refine k_ixI (ns := [10, 61]) (sl (keeps S7 e6 nl2')) r30 (by simpa using r31) ?_
  have hy := getD_memI (ns := [10, 61]) r30 (by simpa using r31)
  have hy2 : ([10, 61] : List Int).getD r3.toNat 0 = 10 ∨ ([10, 61] : List Int).getD r3.toNat 0 = 61 := by
    simpa only [List.mem_cons, List.not_mem_nil, or_false] using hy
  generalize ([10, 61] : List Int).getD r3.toNat 0 = cy at hy2 ⊢
  clear hy
  wtm_at "s"
  refine ⟨_, _, rfl, pu, ce, n, _, cy, rfl, rfl, L7, by omega, by omega, by omega, fun r4 H8 r40 r41 L8 S8 => ?_⟩
  have S58 := (hid_mono (S := [pu, ce]) s6).trans (S7.trans S8)
  have S08 := S05.trans S58
  have eD8 := keeps S58 eD nD'
  clear S04 S05 S58 S7 S8 s6 e6 nl2 nl2' L4 L5 L7 s5 eD
  wtm_at "s"
  obtain ⟨N, hN, N60, Nm⟩ : ∃ N : Nat, r4 * (if decide (0 < m) = true then 1 else 0) = (N : Int) ∧ N ≤ 60 ∧ (0 < N → 0 < m) := by
    by_cases c : m > 0
    · refine ⟨r4.toNat, ?_, by omega, fun _ => c⟩
      rw [if_pos (decide_eq_true c)]; omega
    · refine ⟨0, ?_, by decide, fun h => absurd h (by decide)⟩
      rw [if_neg (by rw [decide_eq_true_iff]; exact c)]; simp
  rw [hN]
  wtm_at "s"
  rw [Int.toNat_natCast]
  refine forR (fun i σ' H' => ∃ ys ps t' k5 k6 k7, σ' = [some (.ref pu), some (.int m), some (.int w), some (.int sz), some (.ref D), k5, k6, k7] ∧ Pu H' pu ce n t' ∧ t' ≤ t + 10 + 4 * i ∧ Same (hid [pu, ce] H) (hid [pu, ce] H') ∧ H' D = some (.lst ys) ∧ DpAll K (hid [pu, ce, D] H') ys (List.map dPair ps) ∧ ps.length = i ∧ ∀ p ∈ ps, 0 ≤ p.1 ∧ p.1 ≤ p.2 ∧ p.2 < m) ⟨[], [], _, _, _, _, rfl, L8, by omega, S08, eD8, .nil, rfl, fun _ z => by cases z⟩ ?_ ?_
  · clear L8 S08 eD8
    rintro i σ' H4 hi ⟨ys, ps, t4, k5, k6, k7, rfl, L4, t41, S4, e4, dys, lps, ok⟩
    have mp := Nm (by omega)
    have ly := dpa_len dys
    rw [List.length_map] at ly
    wtm_at "s"
    refine ⟨_, _, rfl, pu, ce, n, t4, m, rfl, rfl, L4, by omega, mp, by omega, fun x H5 x0 x1 L5 S5 => ?_⟩
    wtm_at "s"
    refine ⟨_, _, rfl, pu, ce, n, _, m, rfl, rfl, L5, by omega, mp, by omega, fun y H6 y0 y1 L6 S6 => ?_⟩
    have S46 := S5.trans S6
    refine k_gname (seqO (fun σ' H' => ∃ x y t', σ' = [some (.ref pu), some (.int m), some (.int w), some (.int sz), some (.ref D), some (.int (0 + (i : Nat))), some (.int x), some (.int y)] ∧ Pu H' pu ce n t' ∧ t' ≤ t4 + 3 ∧ Same (hid [pu, ce] H4) (hid [pu, ce] H') ∧ 0 ≤ x ∧ x < m ∧ 0 ≤ y ∧ y < m) ?_ (fun nx1 go1 => ?_))
    rotate_left
    · wtm_at "s"
      refine k_it (fun c => ?_) (fun c => ?_)
      · wtm_at "s"
        refine ⟨_, _, rfl, pu, ce, n, _, 6, rfl, rfl, L6, by omega, by decide, by decide, fun r H7 r0 r1 L7 S7 => ?_⟩
        wtm_at "s"
        refine k_it (fun c2 => ?_) (fun c2 => ?_)
        · wtm_at "s"
          have a0 := Int.emod_nonneg x (show sz ≠ 0 by omega)
          have b0 := Int.emod_nonneg y (show sz ≠ 0 by omega)
          generalize x % sz = xs at a0 ⊢
          generalize y % sz = yz at b0 ⊢
          refine go1 _ _ ⟨_, _, _, rfl, L7, by omega, S46.trans S7, ?_, ?_, ?_, ?_⟩ <;> (split <;> omega)
        · wtm_at "s"
          exact go1 _ _ ⟨x, y, _, rfl, L7, by omega, S46.trans S7, x0, x1, y0, y1⟩
      · wtm_at "s"
        exact go1 _ _ ⟨x, y, _, rfl, L6, by omega, S46, x0, x1, y0, y1⟩
    clear S46 S5 S6 x0 x1 y0 y1 L5 L6 x y H5 H6
    rintro σ' H5 ⟨x, y, t5, rfl, L5, ht5, S5, x0, x1, y0, y1⟩
    refine seqO (fun σ' H' => ∃ x y, σ' = [some (.ref pu), some (.int m), some (.int w), some (.int sz), some (.ref D), some (.int (0 + (i : Nat))), some (.int x), some (.int y)] ∧ H' = H5 ∧ 0 ≤ x ∧ x < m ∧ 0 ≤ y ∧ y < m) ?_ (fun nx1 go1 => ?_)
    rotate_left
    · have no : nx1 [some (.ref pu), some (.int m), some (.int w), some (.int sz), some (.ref D), some (.int (0 + (i : Nat))), some (.int x), some (.int y)] H5 := go1 _ _ ⟨x, y, rfl, rfl, x0, x1, y0, y1⟩
      wtm_at "s"
      refine k_it (fun c => ?_) (fun c => ?_)
      · wtm_at "s"
        refine k_it (fun c2 => ?_) (fun c2 => ?_)
        · wtm_at "s"
          refine k_it (fun c3 => ?_) (fun c3 => ?_)
          · wtm_at "s"
            exact go1 _ _ ⟨_, _, rfl, rfl, by omega, by omega, by omega, by omega⟩
          · wtm_at "s"
            exact no
        · wtm_at "s"
          exact no
      · wtm_at "s"
        exact no
    clear x0 x1 y0 y1 x y
    rintro σ' H' ⟨x, y, rfl, rfl, x0, x1, y0, y1⟩
    have e5 := keeps S5 e4 nD'
    wtm_at "s"
    refine k_tyL (sl e5) ?_
    wtm_at "s"
    refine kT (by simp) (fun p H7 np s7 e7 => ?_)
    wtm_at "s"
    have pD : p ≠ D := fun z => by rw [z, e5] at np; cases np
    have npp := L5.fresh np
    refine k_append (s7 _ _ e5) (by omega) ?_
    have S47 := S5.trans (hid_mono (S := [pu, ce]) s7)
    refine ⟨ys ++ [.ref p], ps ++ [(if y < x then y else x, if y > x then y else x)], t5, _, _, _, rfl, (L5.same s7).upd nD', by omega, same_hid_mut (S4.trans S47) fr, upd_same, ?_, by simp [lps], fun u hu => ?_⟩
    · rw [hid_upd (by simp), List.map_append]
      refine dpa_app (dpa_same (hid_more S47 (by simp)) dys) (.cons (dp_of_pair (stp ?_)) .nil)
      rw [hid_ne (not_in3 npp pD)]; exact e7
    · rcases List.mem_append.mp hu with hu | hu
      · exact ok u hu
      · have e : u = (if y < x then y else x, if y > x then y else x) := by simpa using hu
        subst e
        refine ⟨?_, ?_, ?_⟩
        · show 0 ≤ if y < x then y else x
          split <;> omega
        · show (if y < x then y else x) ≤ if y > x then y else x
          split <;> split <;> omega
        · show (if y > x then y else x) < m
          split <;> omega
  · clear L8 S08 eD8
    rintro σ' H4 ⟨ys, ps, t4, k5, k6, k7, rfl, L4, t41, S4, e4, dys, lps, ok⟩
    wtm_at "s"
    refine kTq L4 (by simp) (fun p H5 np s5 e5 => ?_)
    refine q p m ps t4 H5 (L4.same s5) (by omega) (S4.trans (hid_mono s5)) (.tup (stp e5) (.cons (.int _) (.cons (.lst (xs := ys) (sl ?_) ?_) .nil))) ⟨m0, by omega, by omega, ok⟩ m12
    · rw [hid_ne nD']; exact s5 _ _ e4
    · exact dpa_same ((hid_sub (by intro a ha; simp only [List.mem_cons, List.not_mem_nil, or_false] at ha ⊢; rcases ha with h | h <;> simp [h])).trans (hid_mono s5)) dys
abbrev sp_law_crossing (K : PySem.W.Frag) : Sp := fun vs H Q E => ∃ v0, vs = [v0] ∧ pr_law_crossing K v0 H Q E
theorem ok_law_crossing (T : Txt K mg A) : FnOk P w K mg base CX0 2 A.a_law_crossing A.d_law_crossing ["_law_purse_here"] (sp_law_crossing K) := by
  refine T.F_law_crossing.ok sc_law_crossing (fun vs H Q E h => by obtain ⟨v0, rfl, _⟩ := h; rfl) (fun cdv A0 outer s H vs Q E hr h => ?_)
  obtain ⟨v0, rfl, h⟩ := h
  exact ⟨t_law_crossing K, (pss_cons (ps_set (i := 1) sc_law_crossing.nd rfl (Or.inl rfl) (pe_call (ok_law_draw T) (hr.mono (by decide)) (by rfl) T.g_law_draw T.F_law_draw.kp T.b_law_draw .nil pass0 (pa_cons (pv 0) (pa_cons pe_int pa_nil))))
      (pss_cons (ps_if (pt_cmpR op_eq (pe_call (ok_law_draw T) (hr.mono (by decide)) (by rfl) T.g_law_draw T.F_law_draw.kp T.b_law_draw .nil pass0 (pa_cons (pv 0) (pa_cons pe_int pa_nil))) pe_int (nomark _)) (pss_one (ps_set (i := 1) sc_law_crossing.nd rfl (Or.inl rfl) (pe_ix ix_list (pe_lst (pa_cons pe_int (pa_cons pe_int (pa_cons pe_int (pa_cons pe_int pa_nil))))) (pe_call (ok_law_draw T) (hr.mono (by decide)) (by rfl) T.g_law_draw T.F_law_draw.kp T.b_law_draw .nil pass0 (pa_cons (pv 0) (pa_cons pe_int pa_nil))) (fun _ _ => rfl)))) pss_nil)
      (pss_cons (ps_set (i := 2) sc_law_crossing.nd rfl (Or.inl rfl) (pe_call (ok_law_draw T) (hr.mono (by decide)) (by rfl) T.g_law_draw T.F_law_draw.kp T.b_law_draw .nil pass0 (pa_cons (pv 0) (pa_cons pe_int pa_nil))))
      (pss_cons (ps_set (i := 3) sc_law_crossing.nd rfl (Or.inl rfl) (pe_ix ix_list (pe_lst (pa_cons pe_int (pa_cons pe_int pa_nil))) (pe_call (ok_law_draw T) (hr.mono (by decide)) (by rfl) T.g_law_draw T.F_law_draw.kp T.b_law_draw .nil pass0 (pa_cons (pv 0) (pa_cons pe_int pa_nil))) (fun _ _ => rfl)))
      (pss_cons (ps_set (i := 4) sc_law_crossing.nd rfl (Or.inl rfl) (pe_lst pa_nil))
      (pss_cons (ps_for PassesOwn.never rfl (pi_range1 (by rfl) T.z_range (pa_cons (pe_op op_mul (pe_call (ok_law_draw T) (hr.mono (by decide)) (by rfl) T.g_law_draw T.F_law_draw.kp T.b_law_draw .nil pass0 (pa_cons (pv 0) (pa_cons (pe_ix ix_list (pe_lst (pa_cons pe_int (pa_cons pe_int pa_nil))) (pe_call (ok_law_draw T) (hr.mono (by decide)) (by rfl) T.g_law_draw T.F_law_draw.kp T.b_law_draw .nil pass0 (pa_cons (pv 0) (pa_cons pe_int pa_nil))) (fun _ _ => rfl)) pa_nil))) (pe_callTy q_intB (by rfl) T.z_int (by decide +kernel) (pa_cons (pe_cmpR op_gt (pv 1) pe_int (nomark _)) pa_nil))) pa_nil)) (pg_name (i := 5) sc_law_crossing.nd rfl (Or.inl rfl))
      (pss_cons (ps_set (i := 6) sc_law_crossing.nd rfl (Or.inl rfl) (pe_call (ok_law_draw T) (hr.mono (by decide)) (by rfl) T.g_law_draw T.F_law_draw.kp T.b_law_draw .nil pass0 (pa_cons (pv 0) (pa_cons (pv 1) pa_nil))))
      (pss_cons (ps_set (i := 7) sc_law_crossing.nd rfl (Or.inl rfl) (pe_call (ok_law_draw T) (hr.mono (by decide)) (by rfl) T.g_law_draw T.F_law_draw.kp T.b_law_draw .nil pass0 (pa_cons (pv 0) (pa_cons (pv 1) pa_nil))))
      (pss_cons (ps_if (PW.pt (pw_and (pt_cmpR op_gt (pv 2) pe_int (nomark _)) (pw_and1 (pt_cmpR op_gt (pe_call (ok_law_draw T) (hr.mono (by decide)) (by rfl) T.g_law_draw T.F_law_draw.kp T.b_law_draw .nil pass0 (pa_cons (pv 0) (pa_cons pe_int pa_nil))) pe_int (nomark _))))) (pss_cons (ps_set (i := 6) sc_law_crossing.nd rfl (Or.inl rfl) (pe_callB (q_min2 (by rfl)) (by rfl) T.z_min (by decide +kernel) (pa_cons (pe_op op_mod (pv 6) (pv 3)) (pa_cons (pe_op op_sub (pv 1) pe_int) pa_nil))))
      (pss_one (ps_set (i := 7) sc_law_crossing.nd rfl (Or.inl rfl) (pe_callB (q_min2 (by rfl)) (by rfl) T.z_min (by decide +kernel) (pa_cons (pe_op op_mod (pv 7) (pv 3)) (pa_cons (pe_op op_sub (pv 1) pe_int) pa_nil)))))) pss_nil)
      (pss_cons (ps_if (PW.pt (pw_and (pt_cmpR op_eq (pv 2) pe_int (nomark _)) (pw_and (pt_cmpR op_gt (pv 1) pe_int (nomark _)) (pw_and1 (pt_cmpR op_eq (pe_op op_mod (pv 5) pe_int) pe_int (nomark _)))))) (pss_cons (ps_set (i := 6) sc_law_crossing.nd rfl (Or.inl rfl) (pe_op op_sub (pe_op op_sub (pv 1) pe_int) (pe_op op_mod (pv 6) pe_int)))
      (pss_one (ps_set (i := 7) sc_law_crossing.nd rfl (Or.inl rfl) (pe_op op_sub (pe_op op_sub (pv 1) pe_int) (pe_op op_mod (pv 7) pe_int))))) pss_nil)
      (pss_one (ps_expr (pe_bm PySem.F.plainAttrs_list PySem.F.slot_list_append PySem.F.type_list_append mt_append (pv 4) (pa_cons (pe_tup (pa_cons (pe_callB (q_min2 (by rfl)) (by rfl) T.z_min (by decide +kernel) (pa_cons (pv 6) (pa_cons (pv 7) pa_nil))) (pa_cons (pe_callB (q_max2 (by rfl)) (by rfl) T.z_max (by decide +kernel) (pa_cons (pv 6) (pa_cons (pv 7) pa_nil))) pa_nil))) pa_nil)))))))))
      (pss_one (ps_ret (pe_tup (pa_cons (pv 1) (pa_cons (pv 4) pa_nil))))))))))), pure_law_crossing h⟩


theorem sh_cr {n : Nat} (many : Int) (ps : List (Int × Int)) : Sh (n + 3) (dCr many ps) := sh_two sh_int (sh_pairs ps)
def sp_law (K : PySem.W.Frag) : Sp := fun vs H Q _ => ∃ (a : Addr) (ns : List Int), vs = [.ref a] ∧ SqL K H a (ns.map V.int) ∧ ns.length ≤ 63 ∧ ∀ H', Q (.bl true) H'
def t_law (K : PySem.W.Frag) : TS :=
  (tSeq (tAsg (tCall (sp_law_purse K) [] E0 (tCons (tVar 0) tNil)) (gName 1))
    (tSeq (tFor (iRng1 (tCons (tC (.int 3)) tNil)) (gName 2)
      (tSeq (tAsg (tCall (sp_law_crossing K) [] E0 (tCons (tVar 1) tNil)) (gName 3))
    (tSeq (tAsg (tCall (sp_law_due K) [] E0 (tCons (tVar 3) tNil)) (gName 4))
    (tSeq (tAsg (tTup (tCons (tOp (rIxT K) (tVar 3) (tC (.int 0))) (tCons (tCB (rListOf K) (tCons (tOp (rIxT K) (tVar 3) (tC (.int 1))) tNil)) tNil))) (gName 5))
    (tSeq (tAsg (tCall (sp_best_lot K) [] E0 (tCons (tVar 5) tNil)) (gName 6))
    (tSeq (tIfS (tOr (tNot (tB (tCall (sp_law_same K) [] E0 (tCons (tVar 6) (tCons (tVar 4) tNil))))) (tTest (tOp (rNeD K) (tVar 5) (tVar 3)))) (tRet (tC (.bl false))) tNext)
    (tSeq (tDrop (tBM K "list" rAppend (tOp (rIxT K) (tVar 6) (tC (.int 1))) (tCons (tC (.int 7)) tNil)))
    (tIfS (tNot (tB (tCall (sp_law_same K) [] E0 (tCons (tCall (sp_best_lot K) [] E0 (tCons (tVar 5) tNil)) (tCons (tVar 4) tNil))))) (tRet (tC (.bl false))) tNext))))))))
    (tRet (tC (.bl true)))))
theorem pure_law {v0 : V} {H : Hp} {Q : VK} (h : ∃ (a : Addr) (ns : List Int), v0 = .ref a ∧ SqL K H a (ns.map V.int) ∧ ns.length ≤ 63 ∧ ∀ H', Q (.bl true) H') : t_law K ⟨fun _ H' => Q .non H', Q, fun _ _ => False, fun _ _ => False⟩ [some v0, none, none, none, none, none, none] H := by
  obtain ⟨a, ns, rfl, ha, hz, q⟩ := h
  unfold t_law
  wtm_at "s"
  refine ⟨_, rfl, a, ns, rfl, ha, hz, fun pu ce n H1 s1 npu nce L1 => ?_⟩
  clear s1 npu nce ha hz
  wtm_at "s"
  refine forR (fun i σ' H' => ∃ (t : Int) (k2 k3 k4 k5 k6 : Option V), σ' = [some (.ref a), some (.ref pu), k2, k3, k4, k5, k6] ∧ Pu H' pu ce n t ∧ t ≤ 10000 * i) ⟨0, _, _, _, _, _, rfl, L1, by simp⟩ ?_ ?_
  · clear L1
    rintro i σ' H2 hi ⟨t, k2, k3, k4, k5, k6, rfl, L2, ht⟩
    have hi2 : i < 3 := hi
    wtm_at "s"
    refine ⟨_, rfl, pu, ce, n, t, rfl, L2, by omega, fun cr many ps t3 H3 L3 ht3 S3 dC ok m12 => ?_⟩
    replace dC := dp_same (hid_same _ _) dC
    obtain ⟨a', b, ys, e', hcr, hb, hys, ly⟩ := dp_cr dC
    cases e'
    clear S3 L2
    wtm_at "s"
    refine ⟨_, rfl, many, ps, dC, ok, m12, fun L du bb H4 hL hbb s4 dD => ?_⟩
    have hcr4 := same_seqT s4 hcr
    wtm_at "s"
    refine k_listN (s4.seq hb) (fun hl H5 nhl s5 e5 => ?_)
    wtm_at "s"
    refine kT (by simp) (fun hd H6 nhd s6 e6 => ?_)
    have s36 := s4.trans (s5.trans s6)
    have dH : Dp K H6 (.ref hd) (dCr many ps) := .tup (stp e6) (.cons (.int _) (.cons (.lst (sl (s6 _ _ e5)) (dpa_same s36 hys)) .nil))
    have lb : bb.2.length ≤ 100 := by
      rw [hbb]
      exact best_len m12 ok.1
    wtm_at "s"
    refine ⟨_, rfl, many, ps, [], dH, ok, m12, (fun x hx => by cases hx), fun L2 p b2 c H7 hL2 s7 nc ep ec hb2 => ?_⟩
    obtain rfl := hL2.one hL
    have eb : b2 = bb := by rw [hb2, hbb]
    subst eb
    have ep7 := hid_same _ _ _ _ ep
    have ec7 := hid_same _ _ _ _ ec
    have dP : Dp K H7 (.ref p) (.tuple [.int b2.1, dInts b2.2]) := .tup (stp ep7) (.cons (.int _) (.cons (dp_of_ints (sl ec7)) .nil))
    have s37 := s36.trans s7
    have s67 := s7
    have hp7 : SqT K H7 p [.int b2.1, .ref c] := stp ep7
    wtm_at "s"
    refine ⟨_, _, rfl, b2.1, b2.2, dP, dp_same ((s5.trans s6).trans s7) dD, lb, fun H8 s8 => ?_⟩
    wtm_at "s"
    refine k_neD0 (n := 3) (dp_same (s7.trans s8) dH) (dp_same (s37.trans s8) dC) (sh_cr _ _) (by decide) ?_
    have hp8 := same_seqT s8 hp7
    have ec8 := s8 _ _ ec7
    wtm_at "s"
    refine k_tyL (sl ec8) ?_
    wtm_at "s"
    refine k_append ec8 (by rw [List.length_map]; omega) ?_
    have s69 : Same H6 (upd H8 c (.lst (b2.2.map V.int ++ [.int 7]))) := same_mut (s7.trans s8) nc
    have nc5 : H4 c = none := (s5.trans s6).free nc
    generalize upd H8 c (.lst (b2.2.map V.int ++ [.int 7])) = H9 at s69 ⊢
    wtm_at "s"
    refine ⟨_, rfl, many, ps, [], dp_same s69 dH, ok, m12, (fun x hx => by cases hx), fun Lx p3 b3 c3 H10 hL3 s10 nc3 ep3 ec3 hb3 => ?_⟩
    obtain rfl := hL3.one hL
    have eb : b3 = b2 := by rw [hb3, hb2]
    subst eb
    wtm_at "s"
    refine ⟨_, _, rfl, b3.1, b3.2, .tup (stp (hid_same _ _ _ _ ep3)) (.cons (.int _) (.cons (dp_of_ints (sl (hid_same _ _ _ _ ec3))) .nil)), dp_same ((s5.trans s6).trans (s69.trans s10)) dD, lb, fun H11 s11 => ?_⟩
    wtm_at "s"
    exact ⟨t3, _, _, _, _, _, rfl, L3.same (s36.trans (s69.trans (s10.trans s11))), by omega⟩
  · rintro σ' H1 ⟨t, k2, k3, k4, k5, k6, rfl, L1, ht⟩
    wtm_at "s"
    exact q _
theorem ok_law (T : Txt K mg A) : FnOk P w K mg base CX0 16 A.a_law A.d_law ["_law_script"] (sp_law K) := by
  refine T.F_law.ok sc_law (fun vs H Q E h => by obtain ⟨a, ns, rfl, _⟩ := h; rfl) (fun cdv A0 outer s H vs Q E hr h => ?_)
  obtain ⟨a, ns, rfl, h⟩ := h
  exact ⟨t_law K, (pss_cons (ps_set (i := 1) sc_law.nd rfl (Or.inl rfl) (pe_call (ok_law_purse T) (hr.mono (by decide)) (by rfl) T.g_law_purse T.F_law_purse.kp T.b_law_purse .nil pass0 (pa_cons (pv 0) pa_nil)))
      (pss_cons (ps_for PassesOwn.never rfl (pi_range1 (by rfl) T.z_range (pa_cons pe_int pa_nil)) (pg_name (i := 2) sc_law.nd rfl (Or.inl rfl))
      (pss_cons (ps_set (i := 3) sc_law.nd rfl (Or.inl rfl) (pe_call (ok_law_crossing T) (hr.mono (by decide)) (by rfl) T.g_law_crossing T.F_law_crossing.kp T.b_law_crossing .nil pass0 (pa_cons (pv 1) pa_nil)))
      (pss_cons (ps_set (i := 4) sc_law.nd rfl (Or.inl rfl) (pe_call (ok_law_due T) (hr.mono (by decide)) (by rfl) T.g_law_due T.F_law_due.kp T.b_law_due .nil pass0 (pa_cons (pv 3) pa_nil)))
      (pss_cons (ps_set (i := 5) sc_law.nd rfl (Or.inl rfl) (pe_tup (pa_cons (pe_ix ix_tup (pv 3) pe_int (fun _ _ => rfl)) (pa_cons (pe_callTy q_listOf (by rfl) T.z_list (by decide +kernel) (pa_cons (pe_ix ix_tup (pv 3) pe_int (fun _ _ => rfl)) pa_nil)) pa_nil))))
      (pss_cons (ps_set (i := 6) sc_law.nd rfl (Or.inl rfl) (pe_call (ok_best_lot T) (hr.mono (by decide)) (by rfl) T.g_best_lot T.F_best_lot.kp T.b_best_lot .nil pass0 (pa_cons (pv 5) pa_nil)))
      (pss_cons (ps_if (PW.pt (pw_or (pt_not (pt_val (pe_call (ok_law_same T) (hr.mono (by decide)) (by rfl) T.g_law_same T.F_law_same.kp T.b_law_same .nil pass0 (pa_cons (pv 6) (pa_cons (pv 4) pa_nil))))) (pw_or1 (pt_cmpR (op_neD hr.units) (pv 5) (pv 3) (nomark _))))) (pss_one (ps_ret pe_bl)) pss_nil)
      (pss_cons (ps_expr (pe_bm PySem.F.plainAttrs_list PySem.F.slot_list_append PySem.F.type_list_append mt_append (pe_ix ix_tup (pv 6) pe_int (fun _ _ => rfl)) (pa_cons pe_int pa_nil)))
      (pss_one (ps_if (pt_not (pt_val (pe_call (ok_law_same T) (hr.mono (by decide)) (by rfl) T.g_law_same T.F_law_same.kp T.b_law_same .nil pass0 (pa_cons (pe_call (ok_best_lot T) (hr.mono (by decide)) (by rfl) T.g_best_lot T.F_best_lot.kp T.b_best_lot .nil pass0 (pa_cons (pv 5) pa_nil)) (pa_cons (pv 4) pa_nil))))) (pss_one (ps_ret pe_bl)) pss_nil)))))))))
      (pss_one (ps_ret pe_bl)))), pure_law ⟨a, ns, rfl, h⟩⟩

theorem all_mk {l : PySem.W.OpenLaw} {w : World} {K : PySem.W.Frag} {h : Heap} {mg : Str → Option Value} {fa : Addr} {f0 f1 f2 f3 f4 f5 f6 f7 f8 f9 f10 f11 f12 f13 : Addr} (X : K.In h) (G : h.Ns mainGlobals mg) (hfa : mg "law" = some (.ref fa))
    {od0 an0 od1 an1 od2 an2 od3 an3 od4 an4 od5 an5 od6 an6 od7 an7 od8 an8 od9 an9 od10 an10 od11 an11 od12 an12 od13 an13 : Option Addr} {sl0 sl1 sl2 sl3 sl4 sl5 sl6 sl7 sl8 sl9 sl10 sl11 sl12 sl13 : Array (Option Value)} {oc0 kV0 dc0 pm0 cd0 ct0 oc1 kV1 dc1 pm1 cd1 ct1 oc2 kV2 dc2 pm2 cd2 ct2 oc3 kV3 dc3 pm3 cd3 ct3 oc4 kV4 dc4 pm4 cd4 ct4 oc5 kV5 dc5 pm5 cd5 ct5 oc6 kV6 dc6 pm6 cd6 ct6 oc7 kV7 dc7 pm7 cd7 ct7 oc8 kV8 dc8 pm8 cd8 ct8 oc9 kV9 dc9 pm9 cd9 ct9 oc10 kV10 dc10 pm10 cd10 ct10 oc11 kV11 dc11 pm11 cd11 ct11 oc12 kV12 dc12 pm12 cd12 ct12 oc13 kV13 dc13 pm13 cd13 ct13 : Value}
    {tk0 tk1 tk2 : Tok}
    (a0 : PySem.W.nsIn K mainGlobals "must_be_crossing" = some (some (.ref f0))) (l0 : K.lookup f0 = some ⟨oc0, od0, .func (PySem.W.fnOf "must_be_crossing" "must_be_crossing" (defArgs s_must_be_crossing) (defBody s_must_be_crossing) (defScope s_must_be_crossing) .none kV0 dc0 pm0 an0 cd0 ct0), sl0⟩) (c0 : PySem.W.codeIn K cd0 "must_be_crossing" = true) (k0 : PySem.W.keepIn K (.ref f0) = true)
    (a1 : PySem.W.nsIn K mainGlobals "load_at" = some (some (.ref f1))) (l1 : K.lookup f1 = some ⟨oc1, od1, .func (PySem.W.fnOf "load_at" "load_at" (defArgs s_load_at) (defBody s_load_at) (defScope s_load_at) .none kV1 dc1 pm1 an1 cd1 ct1), sl1⟩) (c1 : PySem.W.codeIn K cd1 "load_at" = true) (k1 : PySem.W.keepIn K (.ref f1) = true)
    (a2 : PySem.W.nsIn K mainGlobals "bound_of" = some (some (.ref f2))) (l2 : K.lookup f2 = some ⟨oc2, od2, .func (PySem.W.fnOf "bound_of" "bound_of" (defArgs s_bound_of) (defBody s_bound_of) (defScope s_bound_of) .none kV2 dc2 pm2 an2 cd2 ct2), sl2⟩) (c2 : PySem.W.codeIn K cd2 "bound_of" = true) (k2 : PySem.W.keepIn K (.ref f2) = true)
    (a3 : PySem.W.nsIn K mainGlobals "lots_of" = some (some (.ref f3))) (l3 : K.lookup f3 = some ⟨oc3, od3, .func (PySem.W.fnOf "lots_of" "lots_of" (defArgs s_lots_of) (defBody s_lots_of) (defScope s_lots_of) .none kV3 dc3 pm3 an3 cd3 ct3), sl3⟩) (c3 : PySem.W.codeIn K cd3 "lots_of" = true) (k3 : PySem.W.keepIn K (.ref f3) = true)
    (a4 : PySem.W.nsIn K mainGlobals "best_lot" = some (some (.ref f4))) (l4 : K.lookup f4 = some ⟨oc4, od4, .func (PySem.W.fnOf "best_lot" "best_lot" (defArgs s_best_lot) (defBody s_best_lot) (defScope s_best_lot) .none kV4 dc4 pm4 an4 cd4 ct4), sl4⟩) (c4 : PySem.W.codeIn K cd4 "best_lot" = true) (k4 : PySem.W.keepIn K (.ref f4) = true)
    (a5 : PySem.W.nsIn K mainGlobals "_law_purse" = some (some (.ref f5))) (l5 : K.lookup f5 = some ⟨oc5, od5, .func (PySem.W.fnOf "_law_purse" "_law_purse" (defArgs s_law_purse) (defBody s_law_purse) (defScope s_law_purse) .none kV5 dc5 pm5 an5 cd5 ct5), sl5⟩) (c5 : PySem.W.codeIn K cd5 "_law_purse" = true) (k5 : PySem.W.keepIn K (.ref f5) = true)
    (a6 : PySem.W.nsIn K mainGlobals "_law_draw" = some (some (.ref f6))) (l6 : K.lookup f6 = some ⟨oc6, od6, .func (PySem.W.fnOf "_law_draw" "_law_draw" (defArgs s_law_draw) (defBody s_law_draw) (defScope s_law_draw) .none kV6 dc6 pm6 an6 cd6 ct6), sl6⟩) (c6 : PySem.W.codeIn K cd6 "_law_draw" = true) (k6 : PySem.W.keepIn K (.ref f6) = true)
    (a7 : PySem.W.nsIn K mainGlobals "_law_crossing" = some (some (.ref f7))) (l7 : K.lookup f7 = some ⟨oc7, od7, .func (PySem.W.fnOf "_law_crossing" "_law_crossing" (defArgs s_law_crossing) (defBody s_law_crossing) (defScope s_law_crossing) .none kV7 dc7 pm7 an7 cd7 ct7), sl7⟩) (c7 : PySem.W.codeIn K cd7 "_law_crossing" = true) (k7 : PySem.W.keepIn K (.ref f7) = true)
    (a8 : PySem.W.nsIn K mainGlobals "_law_lots" = some (some (.ref f8))) (l8 : K.lookup f8 = some ⟨oc8, od8, .func (PySem.W.fnOf "_law_lots" "_law_lots" (defArgs s_law_lots) (defBody s_law_lots) (defScope s_law_lots) .none kV8 dc8 pm8 an8 cd8 ct8), sl8⟩) (c8 : PySem.W.codeIn K cd8 "_law_lots" = true) (k8 : PySem.W.keepIn K (.ref f8) = true)
    (a9 : PySem.W.nsIn K mainGlobals "_law_bound" = some (some (.ref f9))) (l9 : K.lookup f9 = some ⟨oc9, od9, .func (PySem.W.fnOf "_law_bound" "_law_bound" (defArgs s_law_bound) (defBody s_law_bound) (defScope s_law_bound) .none kV9 dc9 pm9 an9 cd9 ct9), sl9⟩) (c9 : PySem.W.codeIn K cd9 "_law_bound" = true) (k9 : PySem.W.keepIn K (.ref f9) = true)
    (a10 : PySem.W.nsIn K mainGlobals "_law_due" = some (some (.ref f10))) (l10 : K.lookup f10 = some ⟨oc10, od10, .func (PySem.W.fnOf "_law_due" "_law_due" (defArgs s_law_due) (defBody s_law_due) (defScope s_law_due) .none kV10 dc10 pm10 an10 cd10 ct10), sl10⟩) (c10 : PySem.W.codeIn K cd10 "_law_due" = true) (k10 : PySem.W.keepIn K (.ref f10) = true)
    (a11 : PySem.W.nsIn K mainGlobals "_law_whole" = some (some (.ref f11))) (l11 : K.lookup f11 = some ⟨oc11, od11, .func (PySem.W.fnOf "_law_whole" "_law_whole" (defArgs s_law_whole) (defBody s_law_whole) (defScope s_law_whole) .none kV11 dc11 pm11 an11 cd11 ct11), sl11⟩) (c11 : PySem.W.codeIn K cd11 "_law_whole" = true) (k11 : PySem.W.keepIn K (.ref f11) = true)
    (a12 : PySem.W.nsIn K mainGlobals "_law_same" = some (some (.ref f12))) (l12 : K.lookup f12 = some ⟨oc12, od12, .func (PySem.W.fnOf "_law_same" "_law_same" (defArgs s_law_same) (defBody s_law_same) (defScope s_law_same) .none kV12 dc12 pm12 an12 cd12 ct12), sl12⟩) (c12 : PySem.W.codeIn K cd12 "_law_same" = true) (k12 : PySem.W.keepIn K (.ref f12) = true)
    (a13 : PySem.W.nsIn K mainGlobals "law" = some (some (.ref f13))) (l13 : K.lookup f13 = some ⟨oc13, od13, .func (PySem.W.fnOf "law" "law" (defArgs s_law) (defBody s_law) (defScope s_law) .none kV13 dc13 pm13 an13 cd13 ct13), sl13⟩) (c13 : PySem.W.codeIn K cd13 "law" = true) (k13 : PySem.W.keepIn K (.ref f13) = true)
    (e0 : PySem.W.nsIn K mainGlobals "MOST_TIES" = some (some (.int 60 tk0)))
    (e1 : PySem.W.nsIn K mainGlobals "MOST_PAIRS" = some (some (.int 60 tk1)))
    (e2 : PySem.W.nsIn K mainGlobals "MOST_LOTS" = some (some (.int 12 tk2)))
    (z0 : PySem.W.nsIn K mainGlobals "bool" = some none)
    (z1 : PySem.W.nsIn K mainGlobals "int" = some none)
    (z2 : PySem.W.nsIn K mainGlobals "isinstance" = some none)
    (z3 : PySem.W.nsIn K mainGlobals "len" = some none)
    (z4 : PySem.W.nsIn K mainGlobals "list" = some none)
    (z5 : PySem.W.nsIn K mainGlobals "max" = some none)
    (z6 : PySem.W.nsIn K mainGlobals "min" = some none)
    (z7 : PySem.W.nsIn K mainGlobals "range" = some none)
    (z8 : PySem.W.nsIn K mainGlobals "sorted" = some none)
    (z9 : PySem.W.nsIn K mainGlobals "tuple" = some none)
    : ∃ fd : FuncData, (∀ (s : Shared) (v : Value), BindsTo s fd ⟨[v], []⟩ [("_law_script", v)]) ∧ ∀ base : Heap, K.In base → base.Ns mainGlobals mg → FnOk l.prog w K mg base CX0 16 fa fd ["_law_script"] (sp_law K) := by
  have e := hfa.symm.trans (PySem.W.mg_of X G a13)
  cases e
  have F0 := fun_mk (st := s_must_be_crossing) l0 c0 k0
  have b0 := F0.binds (ps := ["crossing"]) fun _ _ _ _ _ _ us hl => match us, hl with | [_], _ => rfl
  have F1 := fun_mk (st := s_load_at) l1 c1 k1
  have b1 := F1.binds (ps := ["crossing"]) fun _ _ _ _ _ _ us hl => match us, hl with | [_], _ => rfl
  have F2 := fun_mk (st := s_bound_of) l2 c2 k2
  have b2 := F2.binds (ps := ["crossing", "lot"]) fun _ _ _ _ _ _ us hl => match us, hl with | [_, _], _ => rfl
  have F3 := fun_mk (st := s_lots_of) l3 c3 k3
  have b3 := F3.binds (ps := ["many", "size", "least"]) fun _ _ _ _ _ _ us hl => match us, hl with | [_, _, _], _ => rfl
  have F4 := fun_mk (st := s_best_lot) l4 c4 k4
  have b4 := F4.binds (ps := ["crossing"]) fun _ _ _ _ _ _ us hl => match us, hl with | [_], _ => rfl
  have F5 := fun_mk (st := s_law_purse) l5 c5 k5
  have b5 := F5.binds (ps := ["_law_script"]) fun _ _ _ _ _ _ us hl => match us, hl with | [_], _ => rfl
  have F6 := fun_mk (st := s_law_draw) l6 c6 k6
  have b6 := F6.binds (ps := ["_law_purse_here", "_law_out_of"]) fun _ _ _ _ _ _ us hl => match us, hl with | [_, _], _ => rfl
  have F7 := fun_mk (st := s_law_crossing) l7 c7 k7
  have b7 := F7.binds (ps := ["_law_purse_here"]) fun _ _ _ _ _ _ us hl => match us, hl with | [_], _ => rfl
  have F8 := fun_mk (st := s_law_lots) l8 c8 k8
  have b8 := F8.binds (ps := ["_law_many"]) fun _ _ _ _ _ _ us hl => match us, hl with | [_], _ => rfl
  have F9 := fun_mk (st := s_law_bound) l9 c9 k9
  have b9 := F9.binds (ps := ["_law_crossing_here", "_law_lot"]) fun _ _ _ _ _ _ us hl => match us, hl with | [_, _], _ => rfl
  have F10 := fun_mk (st := s_law_due) l10 c10 k10
  have b10 := F10.binds (ps := ["_law_crossing_here"]) fun _ _ _ _ _ _ us hl => match us, hl with | [_], _ => rfl
  have F11 := fun_mk (st := s_law_whole) l11 c11 k11
  have b11 := F11.binds (ps := ["_law_found"]) fun _ _ _ _ _ _ us hl => match us, hl with | [_], _ => rfl
  have F12 := fun_mk (st := s_law_same) l12 c12 k12
  have b12 := F12.binds (ps := ["_law_found", "_law_due_here"]) fun _ _ _ _ _ _ us hl => match us, hl with | [_, _], _ => rfl
  have F13 := fun_mk (st := s_law) l13 c13 k13
  have b13 := F13.binds (ps := ["_law_script"]) fun _ _ _ _ _ _ us hl => match us, hl with | [_], _ => rfl
  have T : Txt K mg ⟨f0, _, f1, _, f2, _, f3, _, f4, _, f5, _, f6, _, f7, _, f8, _, f9, _, f10, _, f11, _, f12, _, fa, _⟩ :=
    ⟨PySem.W.mg_of X G a0, F0, b0, PySem.W.mg_of X G a1, F1, b1, PySem.W.mg_of X G a2, F2, b2, PySem.W.mg_of X G a3, F3, b3, PySem.W.mg_of X G a4, F4, b4, PySem.W.mg_of X G a5, F5, b5, PySem.W.mg_of X G a6, F6, b6, PySem.W.mg_of X G a7, F7, b7, PySem.W.mg_of X G a8, F8, b8, PySem.W.mg_of X G a9, F9, b9, PySem.W.mg_of X G a10, F10, b10, PySem.W.mg_of X G a11, F11, b11, PySem.W.mg_of X G a12, F12, b12, PySem.W.mg_of X G a13, F13, b13, tok_mk (PySem.W.mg_of X G e0), tok_mk (PySem.W.mg_of X G e1), tok_mk (PySem.W.mg_of X G e2), PySem.W.mg_none_of X G z0, PySem.W.mg_none_of X G z1, PySem.W.mg_none_of X G z2, PySem.W.mg_none_of X G z3, PySem.W.mg_none_of X G z4, PySem.W.mg_none_of X G z5, PySem.W.mg_none_of X G z6, PySem.W.mg_none_of X G z7, PySem.W.mg_none_of X G z8, PySem.W.mg_none_of X G z9⟩
  exact ⟨_, fun s v => .of_eq rfl, fun base _ _ => ok_law T⟩
end Pf
open PySem PySem.W PyProof.Rows
set_option maxHeartbeats 0 in
theorem PySem.Challenge.cw_tiehues_k35_best_lots_holds : PySem.Challenge.rw_tiehues_k35_best_lots.Holds := by
  w_on; o_law; k_head; (case hw => w_witness2)
  k_fill
  refine L2.walk_ofK (l := PySem.Challenge.rw_tiehues_k35_best_lots) (n := 63) (k := 16) (x := "_law_script") (CX := L2.CX0) (sp := Pf.sp_law) rfl (by decide) rfl ⟨rfl, by decide, by decide⟩ (fun w h Y => PySem.W.kIn_of Y) ?F (fun _ _ a ns hl _ hS => ⟨a, ns, rfl, hS, hl, fun _ => rfl⟩) (fun _ _ _ _ h => h)
  case F =>
    intro w mg fa h KX G hmg
    refine' Pf.all_mk KX G hmg ?a0 ?l0 ?c0 ?k0 ?a1 ?l1 ?c1 ?k1 ?a2 ?l2 ?c2 ?k2 ?a3 ?l3 ?c3 ?k3 ?a4 ?l4 ?c4 ?k4 ?a5 ?l5 ?c5 ?k5 ?a6 ?l6 ?c6 ?k6 ?a7 ?l7 ?c7 ?k7 ?a8 ?l8 ?c8 ?k8 ?a9 ?l9 ?c9 ?k9 ?a10 ?l10 ?c10 ?k10 ?a11 ?l11 ?c11 ?k11 ?a12 ?l12 ?c12 ?k12 ?a13 ?l13 ?c13 ?k13 ?e0 ?e1 ?e2 ?z0 ?z1 ?z2 ?z3 ?z4 ?z5 ?z6 ?z7 ?z8 ?z9
    (case a0 => k_is); (case l0 => k_is); (case c0 => k_is); (case k0 => k_is); (case a1 => k_is); (case l1 => k_is); (case c1 => k_is); (case k1 => k_is); (case a2 => k_is); (case l2 => k_is); (case c2 => k_is); (case k2 => k_is); (case a3 => k_is); (case l3 => k_is); (case c3 => k_is); (case k3 => k_is); (case a4 => k_is); (case l4 => k_is); (case c4 => k_is); (case k4 => k_is); (case a5 => k_is); (case l5 => k_is); (case c5 => k_is); (case k5 => k_is); (case a6 => k_is); (case l6 => k_is); (case c6 => k_is); (case k6 => k_is); (case a7 => k_is); (case l7 => k_is); (case c7 => k_is); (case k7 => k_is); (case a8 => k_is); (case l8 => k_is); (case c8 => k_is); (case k8 => k_is); (case a9 => k_is); (case l9 => k_is); (case c9 => k_is); (case k9 => k_is); (case a10 => k_is); (case l10 => k_is); (case c10 => k_is); (case k10 => k_is); (case a11 => k_is); (case l11 => k_is); (case c11 => k_is); (case k11 => k_is); (case a12 => k_is); (case l12 => k_is); (case c12 => k_is); (case k12 => k_is); (case a13 => k_is); (case l13 => k_is); (case c13 => k_is); (case k13 => k_is); (case e0 => k_is); (case e1 => k_is); (case e2 => k_is); (case z0 => k_is); (case z1 => k_is); (case z2 => k_is); (case z3 => k_is); (case z4 => k_is); (case z5 => k_is); (case z6 => k_is); (case z7 => k_is); (case z8 => k_is); (case z9 => k_is)
