import PyProof.Rows.All
import Wide.All
import OpenK.AllK
import Wide.FinOn
import HandS.ForMost
import HandS.NoneIn
import HandS.Conv
import HandS.IsInst
import HandS.Wide
import HandS.SortInts
import HandS.Walk
import KE.DataMinMax
import HandS.ForExc
import HandS.ExcInit
import KE.KExcIs
import HandS.ExcField
import HandS.ExcIs
import PySem.Challenge.RW_tiehues_k11_lines_refused
set_option Elab.async false
set_option linter.all false
set_option maxRecDepth 100000
set_option maxHeartbeats 4000000
set_option synthInstance.maxHeartbeats 0
set_option synthInstance.maxSize 1000000
namespace Cm
open PySem PySem.Spec PyProof.Rows L2

/-! ### named readings -/
def rLen (K : PySem.W.Frag) : List V → Hp → VK → Prop := fun xs H Q => ∃ p ys, xs = [.ref p] ∧ (SqL K H p ys ∨ SqT K H p ys) ∧ Q (.int ys.length) H
theorem q_len {X : Cx} : CallR X (.builtin "len") (rLen X.K) := call_len_seq
def rListOf (K : PySem.W.Frag) : List V → Hp → VK → Prop := fun xs H Q => ∃ p ys, xs = [.ref p] ∧ (SqL K H p ys ∨ SqT K H p ys) ∧ ∀ l, H l = none → Q (.ref l) (upd H l (.lst ys))
theorem q_listOf {X : Cx} : CallR X (.type "list") (rListOf X.K) := call_list_of
def rMax2 : List V → Hp → VK → Prop := fun xs H Q => ∃ i j, xs = [.int i, .int j] ∧ Q (.int (if j > i then j else i)) H
theorem q_max2 {X : Cx} (hc : X.calm = true) : CallR X (.builtin "max") rMax2 := call_max2 hc
def rMin2 : List V → Hp → VK → Prop := fun xs H Q => ∃ i j, xs = [.int i, .int j] ∧ Q (.int (if j < i then j else i)) H
theorem q_min2 {X : Cx} (hc : X.calm = true) : CallR X (.builtin "min") rMin2 := call_min2 hc
theorem q_isi {X : Cx} : CallR X (.builtin "isinstance") (rIsi X.K) := call_isi
def rIntOf : List V → Hp → VK → Prop := fun xs H Q => (∃ i, xs = [.int i] ∧ Q (.int i) H) ∨ ∃ k, xs = [.bl k] ∧ Q (.int (if k then 1 else 0)) H
theorem q_intB {X : Cx} : CallR X (.type "int") rIntOf := call_int1
theorem q_intI {X : Cx} : CallR X (.type "int") rIntOf := call_int1

/-! ### operators by names -/
def xAdd : R2 := rI0 fun i j => .int (i + j)
def xSub : R2 := rI0 fun i j => .int (i - j)
def xMul : R2 := rI CMul fun i j => .int (i * j)
def xMulW : R2 := rI CMulW fun i j => .int (i * j)
def xDiv : R2 := rI CDiv fun i j => .int (i / j)
def xDivW : R2 := rI CDivW fun i j => .int (i / j)
def xMod : R2 := rI (fun _ j => 0 < j) fun i j => .int (i % j)
def xPow : R2 := rI CPow fun i j => .int (i ^ j.toNat)
def xLt : R2 := rI0 fun i j => .bl (decide (i < j))
def xLe : R2 := rI0 fun i j => .bl (decide (i ≤ j))
def xGt : R2 := rI0 fun i j => .bl (decide (j < i))
def xGe : R2 := rI0 fun i j => .bl (decide (j ≤ i))
def xNeg : V → Hp → VK → Prop := rU fun i => .int (-i)
def xIsN : R2 := fun x y H Q => y = .non ∧ Q (.bl (decide (x = .non))) H
def xNotN : R2 := fun x y H Q => y = .non ∧ Q (.bl (!decide (x = .non))) H
def xTru (K : PySem.W.Frag) (ta : TE) : TT := fun σ H Q => ta σ H fun x H' => ∃ k, TruV K x H' k ∧ Q k H'

/-! ### xs[i] += e -/
def rGetL (K : PySem.W.Frag) : V → V → Hp → VK → Prop := fun x y H Q => ∃ p xs i v, x = .ref p ∧ y = .int i ∧ SqL K H p xs ∧ 0 ≤ i ∧ atI xs i = some v ∧ Q v H
theorem get_list {X : Cx} : PGet X (rGetL X.K) := by
  intro pins s σ H x y v u Q I rx ry h
  obtain ⟨p, xs, i, z, rfl, rfl, hq, h0, he, q⟩ := h
  cases rx
  obtain ⟨t, rfl⟩ := ry
  obtain ⟨its, r, pl, hz⟩ := I.list hq
  obtain ⟨j, h1, h2, h3, h4, h5⟩ := atI_get he
  obtain ⟨w, ew, rw'⟩ := r.get h2
  have hl := r.length
  have hn := line63
  have fin : EP X pins σ Q w s := ⟨z, H, I, rw', q⟩
  have hj : i.toNat = j := by
    rw [seqIndex_of h0 h5] at h1
    exact Option.some.inj h1
  exact wpAny_getItem_list pl.isList h0 (by omega) (by rw [hj]; simpa using ew) fin
def xAugL (K : PySem.W.Frag) (to ti te : TE) : TS := tAugS to ti te (rGetL K) (ipI fun i j => i + j) rSetL
theorem q_augL {X : Cx} {o i e : Expr} {to ti te : TE} {tpos pos : Pos} (ho : PE X o to) (hi : PE X i ti) (he : PE X e te)
    (ha : ∀ ov iv new, augStore i ov iv new = (do holding [new, ov, iv] (setItem ov iv new); release [new, ov, iv] []; pure .next) := by intros; rfl) : PS X (.AugAssign (.Subscript o i tpos) .Add e pos) (xAugL X.K to ti te) :=
  ps_augS ho hi get_list he ip_add set_list ha

/-! ### constants of the module -/
def g_tok (mg : Str → Option Value) (x : Str) : Tok := match mg x with
  | some (.int _ t) => t
  | _ => default
theorem tok_mk {mg : Str → Option Value} {x : Str} {n : Int} {t : Tok} (h : mg x = some (.int n t)) : mg x = some (.int n (g_tok mg x)) := by
  unfold g_tok
  rw [h]

/-! ### heaps -/
theorem same_new {H : Hp} {p : Addr} {o : HO} (h : H p = none) : Same H (upd H p o) := fun b x e => by
  rw [upd_ne (ne_of_none e h)]
  exact e
theorem same_mut {H H' : Hp} {p : Addr} {o : HO} (e : Same H H') (h : H p = none) : Same H (upd H' p o) := fun a u ha => by
  rw [upd_ne (ne_of_none ha h)]
  exact e a u ha
theorem same_seqT {K : PySem.W.Frag} {H H' : Hp} {a : Addr} {xs : List V} (e : Same H H') (h : SqT K H a xs) : SqT K H' a xs := by
  rcases h with (h | ⟨o, h⟩) | h
  · exact .inl (.inl (e _ _ h))
  · exact .inl (.inr ⟨o, e _ _ h⟩)
  · exact .inr h
theorem sl {K : PySem.W.Frag} {H : Hp} {a : Addr} {xs : List V} (h : H a = some (.lst xs)) : SqL K H a xs := .inl (.inl h)
theorem stp {K : PySem.W.Frag} {H : Hp} {a : Addr} {xs : List V} (h : H a = some (.tup xs)) : SqT K H a xs := .inl (.inl h)
theorem sz {n : Nat} (h : n ≤ 100000) : n ≤ sizeLine := Nat.le_trans h (by decide)
theorem szl {n : Nat} (h : n < 100000) : n < sizeLine := Nat.lt_of_lt_of_le h (by decide)

/-! ### data -/
mutual
theorem dp_same {K : PySem.W.Frag} {H H' : Hp} (e : Same H H') : ∀ {v : V} {d : PyData}, Dp K H v d → Dp K H' v d
  | _, _, .non => .non
  | _, _, .bl b => .bl b
  | _, _, .int i => .int i
  | _, _, .str x => .str x
  | _, _, .lst s r => .lst (e.seq s) (dpa_same e r)
  | _, _, .tup s r => .tup (same_seqT e s) (dpa_same e r)
theorem dpa_same {K : PySem.W.Frag} {H H' : Hp} (e : Same H H') : ∀ {vs : List V} {ds : List PyData}, DpAll K H vs ds → DpAll K H' vs ds
  | _, _, .nil => .nil
  | _, _, .cons h r => .cons (dp_same e h) (dpa_same e r)
end
section
variable {K : PySem.W.Frag} {H : Hp}
theorem dp_int {v : V} {i : Int} (h : Dp K H v (.int i)) : v = .int i := by cases h; rfl
theorem dp_bool {v : V} {b : Bool} (h : Dp K H v (.bool b)) : v = .bl b := by cases h; rfl
theorem dp_str {v : V} {s : Str} (h : Dp K H v (.str s)) : v = .str s := by cases h; rfl
theorem dp_list {v : V} {ds : List PyData} (h : Dp K H v (.list ds)) : ∃ a xs, v = .ref a ∧ SqL K H a xs ∧ DpAll K H xs ds := by
  cases h with | lst s r => exact ⟨_, _, rfl, s, r⟩
theorem dp_tup {v : V} {ds : List PyData} (h : Dp K H v (.tuple ds)) : ∃ a xs, v = .ref a ∧ SqT K H a xs ∧ DpAll K H xs ds := by
  cases h with | tup s r => exact ⟨_, _, rfl, s, r⟩
theorem dp_tup2 {v : V} {c d : PyData} (h : Dp K H v (.tuple [c, d])) : ∃ a x y, v = .ref a ∧ SqT K H a [x, y] ∧ Dp K H x c ∧ Dp K H y d := by
  cases h with | tup s r =>
    cases r with | cons h1 r =>
      cases r with | cons h2 r =>
        cases r
        exact ⟨_, _, _, rfl, s, h1, h2⟩
theorem dp_pair {v : V} {a b : Int} (h : Dp K H v (.tuple [.int a, .int b])) : ∃ p, v = .ref p ∧ SqT K H p [.int a, .int b] := by
  obtain ⟨p, x, y, rfl, s, h1, h2⟩ := dp_tup2 h
  rw [dp_int h1, dp_int h2] at s
  exact ⟨p, rfl, s⟩
theorem dpa_ints : ∀ {ns : List Int} {vs : List V}, DpAll K H vs (ns.map PyData.int) → vs = ns.map V.int
  | [], _, h => by cases h; rfl
  | n :: r, _, h => by
    cases h with | cons h1 h2 => rw [dp_int h1, dpa_ints h2]; rfl
theorem dpa_of_ints : ∀ ns : List Int, DpAll K H (ns.map V.int) (ns.map PyData.int)
  | [] => .nil
  | n :: r => .cons (.int n) (dpa_of_ints r)
theorem dpa_len : ∀ {vs : List V} {ds : List PyData}, DpAll K H vs ds → vs.length = ds.length
  | _, _, .nil => rfl
  | _, _, .cons _ r => by simp [dpa_len r]
theorem dpa_get : ∀ {vs : List V} {ds : List PyData} {i : Nat} {v : V}, DpAll K H vs ds → vs[i]? = some v → ∃ d, ds[i]? = some d ∧ Dp K H v d
  | _, _, _, _, .nil, e => by simp at e
  | _, _, 0, _, .cons h _, e => by simp at e; subst e; exact ⟨_, rfl, h⟩
  | _, _, i + 1, _, .cons _ r, e => by
    obtain ⟨d, h1, h2⟩ := dpa_get (i := i) r (by simpa using e)
    exact ⟨d, by simpa using h1, h2⟩
theorem dpa_get2 : ∀ {vs : List V} {ds : List PyData} {i : Nat} {d : PyData}, DpAll K H vs ds → ds[i]? = some d → ∃ v, vs[i]? = some v ∧ Dp K H v d
  | _, _, _, _, .nil, e => by simp at e
  | _, _, 0, _, .cons h _, e => by simp at e; subst e; exact ⟨_, rfl, h⟩
  | _, _, i + 1, _, .cons _ r, e => by
    obtain ⟨d, h1, h2⟩ := dpa_get2 (i := i) r (by simpa using e)
    exact ⟨d, by simpa using h1, h2⟩
theorem dpa_app {vs ws : List V} {ds es : List PyData} : DpAll K H vs ds → DpAll K H ws es → DpAll K H (vs ++ ws) (ds ++ es)
  | .nil, r => r
  | .cons h t, r => .cons h (dpa_app t r)
/-- a list of ints -/
abbrev dInts (ns : List Int) : PyData := .list (ns.map PyData.int)
theorem dp_ints {v : V} {ns : List Int} (h : Dp K H v (dInts ns)) : ∃ a, v = .ref a ∧ SqL K H a (ns.map V.int) := by
  obtain ⟨a, xs, rfl, s, r⟩ := dp_list h
  rw [dpa_ints r] at s
  exact ⟨a, rfl, s⟩
theorem dp_of_ints {a : Addr} {ns : List Int} (h : SqL K H a (ns.map V.int)) : Dp K H (.ref a) (dInts ns) := .lst h (dpa_of_ints ns)
/-- a pair of ints -/
abbrev dPair (p : Int × Int) : PyData := .tuple [.int p.1, .int p.2]
theorem dp_of_pair {a : Addr} {x y : Int} (h : SqT K H a [.int x, .int y]) : Dp K H (.ref a) (dPair (x, y)) := .tup h (.cons (.int x) (.cons (.int y) .nil))
abbrev dPairs (ps : List (Int × Int)) : PyData := .list (ps.map dPair)
end

theorem dpairs_get {K : PySem.W.Frag} {H : Hp} {xs : List V} {ps : List (Int × Int)} {i : Nat} {x : V} (hxs : DpAll K H xs (ps.map dPair)) (hx : xs[i]? = some x) : ∃ p c, ps[i]? = some p ∧ x = .ref c ∧ SqT K H c [.int p.1, .int p.2] := by
  obtain ⟨d, hd, hdx⟩ := dpa_get hxs hx
  rw [List.getElem?_map] at hd
  obtain ⟨p, hp, rfl⟩ := Option.map_eq_some_iff.mp hd
  obtain ⟨c, rfl, hcs⟩ := dp_pair hdx
  exact ⟨p, c, hp, rfl, hcs⟩
/-- data that may be compared: no dicts, at most n deep -/
def Sh (n : Nat) (d : PyData) : Prop := d.canLay0 = true ∧ d.depth ≤ n
theorem Sh.shaped {n : Nat} {d : PyData} (h : Sh n d) (hn : n ≤ 64) : SeqAt.shaped d = true := by
  unfold SeqAt.shaped
  rw [h.1, decide_eq_true (Nat.le_trans h.2 hn)]; rfl
theorem Sh.mono {n m : Nat} {d : PyData} (h : Sh n d) (hn : n ≤ m) : Sh m d := ⟨h.1, Nat.le_trans h.2 hn⟩
theorem sh_int {n : Nat} {i : Int} : Sh n (.int i) := ⟨rfl, Nat.zero_le _⟩
theorem sh_bool {n : Nat} {b : Bool} : Sh n (.bool b) := ⟨rfl, Nat.zero_le _⟩
theorem sh_none {n : Nat} : Sh n .none := ⟨rfl, Nat.zero_le _⟩
theorem sh_all {n : Nat} : ∀ {ds : List PyData}, (∀ d ∈ ds, Sh n d) → PyData.canLayAll0 ds = true ∧ PyData.depthAll ds ≤ n
  | [], _ => ⟨rfl, Nat.zero_le _⟩
  | d :: r, h => by
    obtain ⟨h1, h2⟩ := sh_all (ds := r) fun x hx => h x (List.mem_cons_of_mem _ hx)
    obtain ⟨h3, h4⟩ := h d List.mem_cons_self
    refine ⟨?_, ?_⟩
    · show (PyData.canLay0 d && PyData.canLayAll0 r) = true
      rw [h3, h1]; rfl
    · show max d.depth (PyData.depthAll r) ≤ n
      omega
theorem sh_list {n : Nat} {ds : List PyData} (h : ∀ d ∈ ds, Sh n d) : Sh (n + 1) (.list ds) := by
  obtain ⟨h1, h2⟩ := sh_all h
  exact ⟨h1, by show PyData.depthAll ds + 1 ≤ n + 1; omega⟩
theorem sh_tup {n : Nat} {ds : List PyData} (h : ∀ d ∈ ds, Sh n d) : Sh (n + 1) (.tuple ds) := by
  obtain ⟨h1, h2⟩ := sh_all h
  exact ⟨h1, by show PyData.depthAll ds + 1 ≤ n + 1; omega⟩
theorem sh_ints {n : Nat} (ns : List Int) : Sh (n + 1) (dInts ns) := sh_list fun d hd => by
  obtain ⟨i, _, rfl⟩ := List.mem_map.mp hd
  exact sh_int
theorem sh_pair {n : Nat} (p : Int × Int) : Sh (n + 1) (dPair p) := sh_tup fun d hd => by
  rcases List.mem_cons.mp hd with rfl | hd
  · exact sh_int
  · rcases List.mem_cons.mp hd with rfl | hd
    · exact sh_int
    · cases hd
theorem sh_pairs {n : Nat} (ps : List (Int × Int)) : Sh (n + 2) (dPairs ps) := sh_list fun d hd => by
  obtain ⟨p, _, rfl⟩ := List.mem_map.mp hd
  exact sh_pair p
theorem sh_two {n : Nat} {c d : PyData} (h1 : Sh n c) (h2 : Sh n d) : Sh (n + 1) (.tuple [c, d]) := sh_tup fun x hx => by
  rcases List.mem_cons.mp hx with rfl | hx
  · exact h1
  · rcases List.mem_cons.mp hx with rfl | hx
    · exact h2
    · cases hx
theorem Sh.refl {n : Nat} {d : PyData} (h : Sh n d) : PyData.eqv d d = true := SeqAt.eqv_refl d h.1
theorem ff_iff {P : Prop} (h : ¬ P) : false = true ↔ P := ⟨fun z => (nomatch z), fun z => (h z).elim⟩
theorem tt_iff {P : Prop} (h : P) : true = true ↔ P := ⟨fun _ => h, fun _ => rfl⟩

theorem ixN_of {n : Nat} {i : Int} (h0 : 0 ≤ i) (h1 : i < n) : ixN n i = some i.toNat := by unfold ixN; rw [if_pos h0, if_pos h1]
theorem map_erase (ns : List Int) (i : Nat) : (ns.map V.int).eraseIdx i = (ns.eraseIdx i).map V.int := by
  induction ns generalizing i with
  | nil => rfl
  | cons x r ih => cases i with
    | zero => rfl
    | succ i => show V.int x :: (r.map V.int).eraseIdx i = _; rw [ih]; rfl
theorem erase_perm {α : Type} (l : List α) (i : Nat) (h : i < l.length) : (l[i] :: l.eraseIdx i).Perm l := by
  induction l generalizing i with
  | nil => exact absurd h (by simp)
  | cons x r ih => cases i with
    | zero => exact List.Perm.refl _
    | succ i =>
      have h' : i < r.length := by simpa using h
      show (r[i] :: x :: r.eraseIdx i).Perm (x :: r)
      exact (List.Perm.swap _ _ _).trans ((ih i h').cons x)
theorem getD_memI {ns : List Int} {i : Int} (h0 : 0 ≤ i) (h1 : i < ns.length) : ns.getD i.toNat 0 ∈ ns := by
  have h : i.toNat < ns.length := by omega
  rw [List.getD_eq_getElem?_getD, List.getElem?_eq_getElem h]
  exact List.getElem_mem h
theorem not_in2 {p a b : Addr} (h1 : p ≠ a) (h2 : p ≠ b) : p ∉ [a, b] := by
  intro z
  rcases List.mem_cons.mp z with z | z
  · exact h1 z
  · rcases List.mem_cons.mp z with z | z
    · exact h2 z
    · cases z

/-! ### readings, step by step -/
section
variable {K : PySem.W.Frag} {σ : L2.St} {H : Hp} {D : Ends} {Q : VK} {ta tb te : TE} {t u : TT} {s1 s2 : TS} {QT : Bool → Hp → Prop} {QA : List V → Hp → Prop} {tr : TA} {QS : L2.St → Hp → Prop}
theorem k_seq {nx : L2.St → Hp → Prop} {rt : VK} {bk ct : L2.St → Hp → Prop} (h : s1 ⟨s2 ⟨nx, rt, bk, ct⟩, rt, bk, ct⟩ σ H) : tSeq s1 s2 ⟨nx, rt, bk, ct⟩ σ H := h
theorem k_nx {nx : L2.St → Hp → Prop} {rt : VK} {bk ct : L2.St → Hp → Prop} (h : nx σ H) : Ends.nx ⟨nx, rt, bk, ct⟩ σ H := h
theorem k_next {nx : L2.St → Hp → Prop} {rt : VK} {bk ct : L2.St → Hp → Prop} (h : nx σ H) : tNext ⟨nx, rt, bk, ct⟩ σ H := h
theorem k_cont {nx : L2.St → Hp → Prop} {rt : VK} {bk ct : L2.St → Hp → Prop} (h : ct σ H) : tCont ⟨nx, rt, bk, ct⟩ σ H := h
theorem k_brk {nx : L2.St → Hp → Prop} {rt : VK} {bk ct : L2.St → Hp → Prop} (h : bk σ H) : tBreak ⟨nx, rt, bk, ct⟩ σ H := h
theorem k_set {nx : L2.St → Hp → Prop} {rt : VK} {bk ct : L2.St → Hp → Prop} {i : Nat} (h : te σ H fun x H1 => nx (σ.set i (some x)) H1) : tAsg te (gName i) ⟨nx, rt, bk, ct⟩ σ H := h
theorem k_asg {nx : L2.St → Hp → Prop} {rt : VK} {bk ct : L2.St → Hp → Prop} {g : TG} (h : te σ H fun x H1 => g x σ H1 nx) : tAsg te g ⟨nx, rt, bk, ct⟩ σ H := h
theorem k_drop {nx : L2.St → Hp → Prop} {rt : VK} {bk ct : L2.St → Hp → Prop} (h : te σ H fun _ H1 => nx σ H1) : tDrop te ⟨nx, rt, bk, ct⟩ σ H := h
theorem k_ret {nx : L2.St → Hp → Prop} {rt : VK} {bk ct : L2.St → Hp → Prop} (h : te σ H rt) : tRet te ⟨nx, rt, bk, ct⟩ σ H := h
theorem k_retN {nx : L2.St → Hp → Prop} {rt : VK} {bk ct : L2.St → Hp → Prop} (h : rt .non H) : tRetN ⟨nx, rt, bk, ct⟩ σ H := h
theorem k_aug {nx : L2.St → Hp → Prop} {rt : VK} {bk ct : L2.St → Hp → Prop} {i : Nat} {f : Int → Int → Int} {a : Int} (e : σ[i]? = some (some (.int a))) (h : te σ H fun y H1 => ipI f (.int a) y H1 fun z H2 => nx (σ.set i (some z)) H2) : tAug i te (ipI f) ⟨nx, rt, bk, ct⟩ σ H := ⟨_, e, h⟩
theorem k_augL {nx : L2.St → Hp → Prop} {rt : VK} {bk ct : L2.St → Hp → Prop} {to ti : TE} (h : to σ H fun o H1 => ti σ H1 fun i H2 => rGetL K o i H2 fun x H3 => te σ H3 fun y H4 => ipI (fun i j => i + j) x y H4 fun z H5 => rSetL o i z H5 fun H6 => nx σ H6) : xAugL K to ti te ⟨nx, rt, bk, ct⟩ σ H := h
theorem k_ipI {f : Int → Int → Int} {a b : Int} (h : Q (.int (f a b)) H) : ipI f (.int a) (.int b) H Q := ⟨a, b, rfl, rfl, h⟩
theorem k_if (h : t σ H fun b H1 => if b = true then s1 D σ H1 else s2 D σ H1) : tIfS t s1 s2 D σ H := h
theorem k_var {i : Nat} {v : V} (e : σ[i]? = some (some v)) (h : Q v H) : tVar i σ H Q := ⟨v, e, h⟩
theorem k_c {v : V} (h : Q v H) : tC v σ H Q := h
theorem k_op {r : R2} (h : ta σ H fun x H1 => tb σ H1 fun y H2 => r x y H2 Q) : tOp r ta tb σ H Q := h
theorem k_un {r : V → Hp → VK → Prop} (h : ta σ H fun x H1 => r x H1 Q) : tUn r ta σ H Q := h
theorem k_I0 {g : Int → Int → V} {i j : Int} (h : Q (g i j) H) : rI0 g (.int i) (.int j) H Q := ⟨i, j, rfl, rfl, h⟩
theorem k_I {C : Int → Int → Prop} {g : Int → Int → V} {i j : Int} (hc : C i j) (h : Q (g i j) H) : rI C g (.int i) (.int j) H Q := ⟨i, j, rfl, rfl, hc, h⟩
theorem k_add {i j : Int} (h : Q (.int (i + j)) H) : xAdd (.int i) (.int j) H Q := ⟨i, j, rfl, rfl, h⟩
theorem k_sub {i j : Int} (h : Q (.int (i - j)) H) : xSub (.int i) (.int j) H Q := ⟨i, j, rfl, rfl, h⟩
theorem k_mul {i j : Int} (hc : CMul i j) (h : Q (.int (i * j)) H) : xMul (.int i) (.int j) H Q := ⟨i, j, rfl, rfl, hc, h⟩
theorem k_mulW {i j : Int} (hc : CMulW i j) (h : Q (.int (i * j)) H) : xMulW (.int i) (.int j) H Q := ⟨i, j, rfl, rfl, hc, h⟩
theorem k_div {i j : Int} (hc : CDiv i j) (h : Q (.int (i / j)) H) : xDiv (.int i) (.int j) H Q := ⟨i, j, rfl, rfl, hc, h⟩
theorem k_divW {i j : Int} (hc : CDivW i j) (h : Q (.int (i / j)) H) : xDivW (.int i) (.int j) H Q := ⟨i, j, rfl, rfl, hc, h⟩
theorem k_mod {i j : Int} (hc : 0 < j) (h : Q (.int (i % j)) H) : xMod (.int i) (.int j) H Q := ⟨i, j, rfl, rfl, hc, h⟩
theorem k_pow {i j : Int} (hc : CPow i j) (h : Q (.int (i ^ j.toNat)) H) : xPow (.int i) (.int j) H Q := ⟨i, j, rfl, rfl, hc, h⟩
theorem k_lt {i j : Int} (h : Q (.bl (decide (i < j))) H) : xLt (.int i) (.int j) H Q := ⟨i, j, rfl, rfl, h⟩
theorem k_le {i j : Int} (h : Q (.bl (decide (i ≤ j))) H) : xLe (.int i) (.int j) H Q := ⟨i, j, rfl, rfl, h⟩
theorem k_gt {i j : Int} (h : Q (.bl (decide (j < i))) H) : xGt (.int i) (.int j) H Q := ⟨i, j, rfl, rfl, h⟩
theorem k_ge {i j : Int} (h : Q (.bl (decide (j ≤ i))) H) : xGe (.int i) (.int j) H Q := ⟨i, j, rfl, rfl, h⟩
theorem k_neg {i : Int} (h : Q (.int (-i)) H) : xNeg (.int i) H Q := ⟨i, rfl, h⟩
theorem k_U {g : Int → V} {i : Int} (h : Q (g i) H) : rU g (.int i) H Q := ⟨i, rfl, h⟩
theorem k_eqI {i j : Int} (h : Q (.bl (decide (i = j))) H) : rEq (.int i) (.int j) H Q := ⟨rfl, by
  have e : decide (V.int i = V.int j) = decide (i = j) := by
    by_cases c : i = j
    · rw [decide_eq_true c, decide_eq_true (by rw [c])]
    · rw [decide_eq_false c, decide_eq_false (fun z => c (V.int.inj z))]
  rw [e]; exact h⟩
theorem k_neI {i j : Int} (h : Q (.bl (!decide (i = j))) H) : rNe (.int i) (.int j) H Q := ⟨rfl, by
  have e : decide (V.int i = V.int j) = decide (i = j) := by
    by_cases c : i = j
    · rw [decide_eq_true c, decide_eq_true (by rw [c])]
    · rw [decide_eq_false c, decide_eq_false (fun z => c (V.int.inj z))]
  rw [e]; exact h⟩
theorem k_test (h : te σ H fun x H1 => ∃ k, x = .bl k ∧ QT k H1) : tTest te σ H QT := h
theorem k_B (h : te σ H fun x H1 => ∃ k, x = .bl k ∧ QT k H1) : tB te σ H QT := h
theorem k_bl {b : Bool} {R : Bool → Prop} (h : R b) : ∃ k, V.bl b = .bl k ∧ R k := ⟨b, rfl, h⟩
theorem k_and (h : t σ H fun c H1 => if c = true then u σ H1 QT else QT false H1) : tAnd t u σ H QT := h
theorem k_or (h : t σ H fun c H1 => if c = true then QT true H1 else u σ H1 QT) : tOr t u σ H QT := h
theorem k_not (h : t σ H fun c H1 => QT (!c) H1) : tNot t σ H QT := h
theorem k_notV (h : ta σ H fun x H1 => ∃ c, x = .bl c ∧ Q (.bl (!c)) H1) : tNotV ta σ H Q := h
theorem k_andV (h : ta σ H fun x H1 => ∃ c, x = .bl c ∧ if c = true then tb σ H1 Q else Q (.bl false) H1) : tAndV ta tb σ H Q := h
theorem k_orV (h : ta σ H fun x H1 => ∃ c, x = .bl c ∧ if c = true then Q (.bl true) H1 else tb σ H1 Q) : tOrV ta tb σ H Q := h
theorem k_cb {r : List V → Hp → VK → Prop} (h : tr σ H fun vs H1 => r vs H1 Q) : tCB r tr σ H Q := h
theorem k_nil (h : QA [] H) : tNil σ H QA := h
theorem k_cons (h : ta σ H fun x H1 => tr σ H1 fun xs H2 => QA (x :: xs) H2) : tCons ta tr σ H QA := h
theorem k_call {sp : Sp} {dvs : List V} {E : XK} (h : tr σ H fun vs H1 => sp (vs ++ dvs) H1 Q E) : tCall sp dvs E tr σ H Q := h
theorem k_len {p : Addr} {ys : List V} (hs : SqL K H p ys) (h : Q (.int ys.length) H) : rLen K [.ref p] H Q := ⟨p, ys, rfl, .inl hs, h⟩
theorem k_len0 {p : Addr} (hs : H p = some (.lst [])) (h : Q (.int 0) H) : rLen K [.ref p] H Q := ⟨p, [], rfl, .inl (sl hs), h⟩
theorem k_lenT {p : Addr} {ys : List V} (hs : SqT K H p ys) (h : Q (.int ys.length) H) : rLen K [.ref p] H Q := ⟨p, ys, rfl, .inr hs, h⟩
theorem k_lenI {p : Addr} {ns : List Int} (hs : SqL K H p (ns.map V.int)) (h : Q (.int ns.length) H) : rLen K [.ref p] H Q := ⟨p, _, rfl, .inl hs, by rw [List.length_map]; exact h⟩
theorem k_list {p : Addr} {ys : List V} (hs : SqL K H p ys) (h : ∀ l, H l = none → Q (.ref l) (upd H l (.lst ys))) : rListOf K [.ref p] H Q := ⟨p, ys, rfl, .inl hs, h⟩
theorem k_lst (h : tr σ H fun xs H1 => xs.length ≤ sizeLine ∧ ∀ p, H1 p = none → Q (.ref p) (upd H1 p (.lst xs))) : tLst tr σ H Q := h
theorem k_tup (h : tr σ H fun xs H1 => xs.length ≤ sizeLine ∧ ∀ p, H1 p = none → Q (.ref p) (upd H1 p (.tup xs))) : tTup tr σ H Q := h
theorem k_new {xs : List V} {R : Addr → Prop} (hn : xs.length ≤ 100000) (h : ∀ p, H p = none → R p) : xs.length ≤ sizeLine ∧ ∀ p, H p = none → R p := ⟨sz hn, h⟩
theorem k_gtup {n : Nat} {g : TGs} {a : Addr} {xs : List V} (hs : SqT K H a xs) (hn : xs.length = n) (h : g xs σ H QS) : gTup K n g (.ref a) σ H QS := ⟨a, xs, rfl, hs, hn, h⟩
theorem k_gunl {n : Nat} {g : TGs} {a : Addr} {xs : List V} (hs : SqL K H a xs) (hn : xs.length = n) (h : g xs σ H QS) : gUnl K n g (.ref a) σ H QS := ⟨a, xs, rfl, hs, hn, h⟩
theorem k_gcons {g : TG} {gs : TGs} {v : V} {r : List V} (h : g v σ H fun σ' H' => gs r σ' H' QS) : gCons g gs (v :: r) σ H QS := ⟨v, r, rfl, h⟩
theorem k_gnil (h : QS σ H) : gNil [] σ H QS := ⟨rfl, h⟩
theorem k_gname {i : Nat} {v : V} (h : QS (σ.set i (some v)) H) : gName i v σ H QS := h
theorem k_gsub {to ti : TE} {ts : TSet} {v : V} (h : to σ H fun o H1 => ti σ H1 fun i H2 => ts o i v H2 fun H3 => QS σ H3) : gSub to ti ts v σ H QS := h
theorem k_setL {p : Addr} {xs : List V} {k : Int} {j : Nat} {v : V} {QH : Hp → Prop} (hp : H p = some (.lst xs)) (hj : ixN xs.length k = some j) (h : QH (upd H p (.lst (xs.set j v)))) : rSetL (.ref p) (.int k) v H QH := ⟨p, xs, k, j, rfl, rfl, hp, hj, h⟩
theorem k_ixL {p : Addr} {xs : List V} {i : Int} {v : V} (hs : SqL K H p xs) (ha : atI xs i = some v) (h : Q v H) : rIxL K (.ref p) (.int i) H Q := ⟨p, xs, i, v, rfl, rfl, hs, ha, h⟩
theorem k_ixT {p : Addr} {xs : List V} {i : Int} {v : V} (hs : SqT K H p xs) (ha : atI xs i = some v) (h : Q v H) : rIxT K (.ref p) (.int i) H Q := ⟨p, xs, i, v, rfl, rfl, hs, ha, h⟩
theorem k_min {p : Addr} {ns : List Int} (hs : SqL K H p (ns.map V.int)) (h0 : 0 < ns.length) (h : ∀ m, m ∈ ns → (∀ y, y ∈ ns → m ≤ y) → Q (.int m) H) : rMin K [.ref p] H Q := ⟨p, ns, rfl, hs, h0, h⟩
theorem k_max {p : Addr} {ns : List Int} (hs : SqL K H p (ns.map V.int)) (h0 : 0 < ns.length) (h : ∀ m, m ∈ ns → (∀ y, y ∈ ns → y ≤ m) → Q (.int m) H) : rMax K [.ref p] H Q := ⟨p, ns, rfl, hs, h0, h⟩
theorem k_popI {p : Addr} {ns : List Int} {i : Int} (hp : H p = some (.lst (ns.map V.int))) (h0 : 0 ≤ i) (h1 : i < ns.length) (h2 : i < 1000000) (h : Q (.int (ns.getD i.toNat 0)) (upd H p (.lst ((ns.eraseIdx i.toNat).map V.int)))) : rPopAt (.ref p) [.int i] H Q := by
  refine ⟨p, _, i, i.toNat, .int (ns.getD i.toNat 0), rfl, rfl, hp, by omega, by omega, ?_, ?_, ?_⟩
  · exact (ixN_seq (ixN_of h0 (by rw [List.length_map]; exact h1))).1
  · have hh : i.toNat < ns.length := by omega
    rw [List.getElem?_map, List.getElem?_eq_getElem hh]
    simp [List.getD_eq_getElem?_getD, List.getElem?_eq_getElem hh]
  · have e : (ns.map V.int).eraseIdx i.toNat = (ns.eraseIdx i.toNat).map V.int := map_erase ns _
    rw [e]; exact h
theorem k_sortedI {a : Addr} {ns : List Int} (hs : SqL K H a (ns.map V.int)) (h : ∀ (ns' : List Int) (p : Addr), ns'.Perm ns → ns'.Pairwise (· ≤ ·) → H p = none → Q (.ref p) (upd H p (.lst (ns'.map V.int)))) : rSortedI K [.ref a] H Q := ⟨a, ns, rfl, hs, h⟩
theorem k_max2 {i j : Int} (h : Q (.int (if j > i then j else i)) H) : rMax2 [.int i, .int j] H Q := ⟨i, j, rfl, h⟩
theorem k_min2 {i j : Int} (h : Q (.int (if j < i then j else i)) H) : rMin2 [.int i, .int j] H Q := ⟨i, j, rfl, h⟩
theorem k_bm {T : String} {r : V → List V → Hp → VK → Prop} (h : ta σ H fun x H1 => tyV K T x H1 ∧ tr σ H1 fun xs H2 => r x xs H2 Q) : tBM K T r ta tr σ H Q := h
theorem k_bm0 {T : String} {r : V → List V → Hp → VK → Prop} (h : ta σ H fun x H1 => tyV K T x H1 ∧ r x [] H1 Q) : tBM0 K T r ta σ H Q := h
theorem k_cat {p q : Addr} {xs ys : List V} (hp : H p = some (.lst xs)) (hq : H q = some (.lst ys)) (hz : xs.length + ys.length ≤ 100000) (h : ∀ l, H l = none → Q (.ref l) (upd H l (.lst (xs ++ ys)))) : rCat (.ref p) (.ref q) H Q := ⟨p, q, xs, ys, rfl, rfl, hp, hq, sz hz, h⟩
theorem k_tyL {p : Addr} {xs : List V} {R : Prop} (hp : SqL K H p xs) (h : R) : tyV K "list" (.ref p) H ∧ R := ⟨.inl ⟨rfl, _, hp⟩, h⟩
theorem k_append {p : Addr} {xs : List V} {y : V} (hp : H p = some (.lst xs)) (hn : xs.length < 100000) (h : Q .non (upd H p (.lst (xs ++ [y])))) : rAppend (.ref p) [y] H Q := ⟨p, xs, y, rfl, rfl, hp, szl hn, h⟩
theorem k_itT {b : Bool} {A B : Prop} (e : b = true) (h : A) : if b = true then A else B := by rw [if_pos e]; exact h
theorem k_itF {b : Bool} {A B : Prop} (e : b = false) (h : B) : if b = true then A else B := by rw [e]; exact h
theorem iteNT {A B : Prop} (h : B) : if (!true) = true then A else B := iteF h
theorem iteNF {A B : Prop} (h : A) : if (!false) = true then A else B := iteT h
theorem k_itDT {c A B : Prop} [Decidable c] (e : c) (h : A) : if decide c = true then A else B := by rw [if_pos (decide_eq_true e)]; exact h
theorem k_itDF {c A B : Prop} [Decidable c] (e : ¬ c) (h : B) : if decide c = true then A else B := by rw [decide_eq_false e]; exact h
theorem k_itNT {c A B : Prop} [Decidable c] (e : ¬ c) (h : A) : if (!decide c) = true then A else B := by rw [decide_eq_false e]; exact h
theorem k_itNF {c A B : Prop} [Decidable c] (e : c) (h : B) : if (!decide c) = true then A else B := by rw [decide_eq_true e]; exact h
theorem k_for {nx : L2.St → Hp → Prop} {rt : VK} {bk ct : L2.St → Hp → Prop} {wi : TI} {g : TG} {tb : TS} (h : wi σ H fun J H1 => ∃ W : Nat → Nat → L2.St → Hp → Prop, (∃ m, W 0 m σ H1) ∧ ∀ i m σ H, W i m σ H →
  (J.stop i H ∧ nx σ H) ∨ (J.go i H ∧ ∃ N : L2.St → Hp → Prop, (∀ σ' H', N σ' H' → ∃ m', m' < m ∧ W (i + 1) m' σ' H') ∧ ∀ x H', J.yld i H x H' → g x σ H' fun σ2 H2 => tb ⟨N, rt, nx, N⟩ σ2 H2)) : tFor wi g tb ⟨nx, rt, bk, ct⟩ σ H := h
theorem forL {nx : L2.St → Hp → Prop} {rt : VK} {b : Addr} {xs : List V} {g : TG} {tb : TS} (hs0 : SqL K H b xs) (Pv : Nat → L2.St → Hp → Prop) (h0 : Pv 0 σ H) (hl : ∀ i σ H, i ≤ xs.length → Pv i σ H → SqL K H b xs)
    (hs : ∀ (i : Nat) x σ H, xs[i]? = some x → Pv i σ H → g x σ H fun σ2 H2 => tb ⟨Pv (i + 1), rt, nx, Pv (i + 1)⟩ σ2 H2) (hd : ∀ σ H, Pv xs.length σ H → nx σ H) :
    ∃ a, V.ref b = .ref a ∧ (∃ xs, SqL K H a xs) ∧ ∃ W : Nat → Nat → L2.St → Hp → Prop, (∃ m, W 0 m σ H) ∧ ∀ i m σ H, W i m σ H →
      ((Itl K a).stop i H ∧ nx σ H) ∨ ((Itl K a).go i H ∧ ∃ N : L2.St → Hp → Prop, (∀ σ' H', N σ' H' → ∃ m', m' < m ∧ W (i + 1) m' σ' H') ∧ ∀ x H', (Itl K a).yld i H x H' → g x σ H' fun σ2 H2 => tb ⟨N, rt, nx, N⟩ σ2 H2) :=
  ⟨b, rfl, ⟨xs, hs0⟩, for_list (D := ⟨nx, rt, fun _ _ => False, fun _ _ => False⟩) Pv h0 hl hs hd⟩
theorem forR {nx : L2.St → Hp → Prop} {rt : VK} {lo : Int} {n : Nat} {g : TG} {tb : TS} (Pv : Nat → L2.St → Hp → Prop) (h0 : Pv 0 σ H)
    (hs : ∀ (i : Nat) σ H, i < n → Pv i σ H → g (.int (lo + i)) σ H fun σ2 H2 => tb ⟨Pv (i + 1), rt, nx, Pv (i + 1)⟩ σ2 H2) (hd : ∀ σ H, Pv n σ H → nx σ H) :
    ∃ W : Nat → Nat → L2.St → Hp → Prop, (∃ m, W 0 m σ H) ∧ ∀ i m σ H, W i m σ H →
      ((Itr lo n).stop i H ∧ nx σ H) ∨ ((Itr lo n).go i H ∧ ∃ N : L2.St → Hp → Prop, (∀ σ' H', N σ' H' → ∃ m', m' < m ∧ W (i + 1) m' σ' H') ∧ ∀ x H', (Itr lo n).yld i H x H' → g x σ H' fun σ2 H2 => tb ⟨N, rt, nx, N⟩ σ2 H2) :=
  for_range (D := ⟨nx, rt, fun _ _ => False, fun _ _ => False⟩) Pv h0 hs hd
theorem k_while {nx : L2.St → Hp → Prop} {rt : VK} {bk ct : L2.St → Hp → Prop} {c : TT} {tb : TS} (h : ∃ W : Nat → L2.St → Hp → Prop, (∃ m, W m σ H) ∧ ∀ m σ H, W m σ H →
  c σ H fun b H1 => if b = true then ∃ N : L2.St → Hp → Prop, (∀ σ' H', N σ' H' → ∃ m', m' < m ∧ W m' σ' H') ∧ tb ⟨N, rt, nx, N⟩ σ H1 else nx σ H1) : tWhile c tb ⟨nx, rt, bk, ct⟩ σ H := h
theorem whileW {nx : L2.St → Hp → Prop} {rt : VK} {bk ct : L2.St → Hp → Prop} {c : TT} {tb : TS} (W : Nat → L2.St → Hp → Prop) {m0 : Nat} (h0 : W m0 σ H)
    (hs : ∀ m σ H, W m σ H → c σ H fun b H1 => if b = true then tb ⟨fun σ' H' => ∃ m', m' < m ∧ W m' σ' H', rt, nx, fun σ' H' => ∃ m', m' < m ∧ W m' σ' H'⟩ σ H1 else nx σ H1)
    (mono : ∀ σ H (Q Q' : Bool → Hp → Prop), (∀ b H1, Q b H1 → Q' b H1) → c σ H Q → c σ H Q') : tWhile c tb ⟨nx, rt, bk, ct⟩ σ H := by
  refine ⟨W, ⟨m0, h0⟩, fun m σ H w => mono σ H _ _ (fun b H1 q => ?_) (hs m σ H w)⟩
  cases b with
  | true => exact ⟨_, fun σ' H' h => h, q⟩
  | false => exact q
theorem k_iList {R : It → Hp → Prop} (h : te σ H fun x H1 => ∃ a, x = .ref a ∧ (∃ xs, SqL K H1 a xs) ∧ R (Itl K a) H1) : iList K te σ H R := h
theorem k_iTup {R : It → Hp → Prop} (h : te σ H fun x H1 => ∃ a, x = .ref a ∧ (∃ xs, SqT K H1 a xs) ∧ R (Itt K a) H1) : iTup K te σ H R := h
theorem k_iZip {R : It → Hp → Prop} (h : tr σ H fun vs H1 => ∃ a b xs ys, vs = [.ref a, .ref b] ∧ SqL K H1 a xs ∧ SqL K H1 b ys ∧ R (Itz K a b) H1) : iZip K tr σ H R := h
theorem k_iEnum {R : It → Hp → Prop} (h : tr σ H fun vs H1 => ∃ a xs, vs = [.ref a] ∧ SqL K H1 a xs ∧ R (Ite K a) H1) : iEnum K tr σ H R := h
theorem k_iRng1 {R : It → Hp → Prop} (h : tr σ H fun vs H1 => ∃ j : Int, vs = [.int j] ∧ -(2 ^ 62) ≤ j ∧ j < 2 ^ 62 ∧ R (Itr 0 j.toNat) H1) : iRng1 tr σ H R := h
theorem k_iRng2 {R : It → Hp → Prop} (h : tr σ H fun vs H1 => ∃ i j : Int, vs = [.int i, .int j] ∧ (-(2 ^ 62) ≤ i ∧ i < 2 ^ 62 ∧ -(2 ^ 62) ≤ j ∧ j < 2 ^ 62) ∧ R (Itr i (j - i).toNat) H1) : iRng2 tr σ H R := h
theorem k_rj1 {j : Int} {R : Int → Prop} (h1 : -(2 ^ 62) ≤ j) (h2 : j < 2 ^ 62) (h : R j) : ∃ j' : Int, [V.int j] = [.int j'] ∧ -(2 ^ 62) ≤ j' ∧ j' < 2 ^ 62 ∧ R j' := ⟨j, rfl, h1, h2, h⟩
theorem k_rj2 {i j : Int} {R : Int → Int → Prop} (h1 : -(2 ^ 62) ≤ i ∧ i < 2 ^ 62 ∧ -(2 ^ 62) ≤ j ∧ j < 2 ^ 62) (h : R i j) : ∃ i' j' : Int, [V.int i, V.int j] = [.int i', .int j'] ∧ (-(2 ^ 62) ≤ i' ∧ i' < 2 ^ 62 ∧ -(2 ^ 62) ≤ j' ∧ j' < 2 ^ 62) ∧ R i' j' := ⟨i, j, rfl, h1, h⟩
theorem k_it {c A B : Prop} [Decidable c] (h1 : c → A) (h2 : ¬ c → B) : if decide c = true then A else B := by
  by_cases h : c
  · rw [if_pos (decide_eq_true h)]; exact h1 h
  · rw [decide_eq_false h]; exact h2 h
theorem k_itn {c A B : Prop} [Decidable c] (h1 : ¬ c → A) (h2 : c → B) : if (!decide c) = true then A else B := by
  by_cases h : c
  · rw [decide_eq_true h]; exact h2 h
  · rw [decide_eq_false h]; exact h1 h
theorem k_itb {b : Bool} {A B : Prop} (h1 : b = true → A) (h2 : b = false → B) : if b = true then A else B := by
  cases b with
  | true => exact h1 rfl
  | false => exact h2 rfl
theorem k_isi {x : V} {c : String} {tx : String} {b : Bool} (ht : TyX K H x (.type tx)) (hb : kitB tx c = some b) (h : Q (.bl b) H) : rIsi K [x, .ty c] H Q := ⟨x, .ty c, .type tx, .type c, b, rfl, .ty c, ht, kit_ty hb, h⟩

theorem ty_list {p : Addr} {xs : List V} (h : SqL K H p xs) : TyX K H (.ref p) (.type "list") := by
  rcases h with (h | ⟨o, h⟩) | ⟨o, its, n, h, c, _⟩
  · exact .base (.lst h)
  · exact .base (.frz h)
  · exact .kList h c
theorem k_isiL {p : Addr} {xs : List V} (hs : SqL K H p xs) (h : Q (.bl true) H) : rIsi K [.ref p, .ty "list"] H Q := k_isi (ty_list hs) (by decide +kernel) h
theorem k_isiLI {i : Int} (h : Q (.bl false) H) : rIsi K [.int i, .ty "list"] H Q := k_isi (.base (.int i)) (by decide +kernel) h
theorem k_isiI {i : Int} (h : Q (.bl true) H) : rIsi K [.int i, .ty "int"] H Q := k_isi (.base (.int i)) (by decide +kernel) h
theorem k_isiB {i : Int} (h : Q (.bl false) H) : rIsi K [.int i, .ty "bool"] H Q := k_isi (.base (.int i)) (by decide +kernel) h
theorem inV_ints (x : Int) : ∀ ns : List Int, inV (.int x) (ns.map V.int) = decide (x ∈ ns)
  | [] => rfl
  | n :: r => by
    show (eqV (.int n) (.int x) || inV (.int x) (r.map V.int)) = decide (x ∈ n :: r)
    rw [inV_ints x r]
    show ((n == x) || decide (x ∈ r)) = decide (x ∈ n :: r)
    by_cases h : n = x
    · subst h; simp
    · have : (n == x) = false := by simp [h]
      rw [this, Bool.false_or]
      have h' : ¬ x = n := fun e => h e.symm
      simp [h']
theorem flat_ints : ∀ ns : List Int, (ns.map V.int).all flatV = true
  | [] => rfl
  | _ :: r => by show (true && (r.map V.int).all flatV) = true; rw [flat_ints r]; rfl
theorem k_inI {p : Addr} {ns : List Int} {x : Int} (hs : SqL K H p (ns.map V.int)) (h : Q (.bl (decide (x ∈ ns))) H) : rIn K false (.int x) (.ref p) H Q :=
  ⟨p, _, rfl, .inl hs, rfl, flat_ints ns, by rw [if_neg Bool.false_ne_true, inV_ints]; exact h⟩
theorem k_notInI {p : Addr} {ns : List Int} {x : Int} (hs : SqL K H p (ns.map V.int)) (h : Q (.bl (!decide (x ∈ ns))) H) : rIn K true (.int x) (.ref p) H Q :=
  ⟨p, _, rfl, .inl hs, rfl, flat_ints ns, by rw [if_pos rfl, inV_ints]; exact h⟩
theorem k_intB {b : Bool} (h : Q (.int (if b then 1 else 0)) H) : rIntOf [.bl b] H Q := .inr ⟨b, rfl, h⟩
theorem at_int {ns : List Int} {i : Int} (h0 : 0 ≤ i) (h1 : i < ns.length) : atI (ns.map V.int) i = some (.int (ns.getD i.toNat 0)) := by
  obtain ⟨k, rfl⟩ : ∃ k : Nat, i = k := ⟨i.toNat, by omega⟩
  have h : k < ns.length := by omega
  refine atI_nat ?_
  rw [List.getElem?_map]
  simp [List.getElem?_eq_getElem h, List.getD_eq_getElem?_getD]
theorem k_ixI {p : Addr} {ns : List Int} {i : Int} (hs : SqL K H p (ns.map V.int)) (h0 : 0 ≤ i) (h1 : i < ns.length) (h : Q (.int (ns.getD i.toNat 0)) H) : rIxL K (.ref p) (.int i) H Q := k_ixL hs (at_int h0 h1) h
theorem k_eqD {x y : V} {c d : PyData} {n : Nat} (hx : Dp K H x c) (hy : Dp K H y d) (h1 : Sh n c) (h2 : Sh n d) (hn : n ≤ 64) (h : Q (.bl (PyData.eqv c d)) H) : rEqD K x y H Q := ⟨c, d, hx, hy, h1.shaped hn, h2.shaped hn, h⟩
theorem k_neD {x y : V} {c d : PyData} {n : Nat} (hx : Dp K H x c) (hy : Dp K H y d) (h1 : Sh n c) (h2 : Sh n d) (hn : n ≤ 64) (h : Q (.bl (!PyData.eqv c d)) H) : rNeD K x y H Q := ⟨c, d, hx, hy, h1.shaped hn, h2.shaped hn, h⟩
theorem k_neD0 {x y : V} {c : PyData} {n : Nat} (hx : Dp K H x c) (hy : Dp K H y c) (h1 : Sh n c) (hn : n ≤ 64) (h : Q (.bl false) H) : rNeD K x y H Q := k_neD hx hy h1 h1 hn (by rw [h1.refl]; exact h)
theorem k_eqD1 {x y : V} {c : PyData} {n : Nat} (hx : Dp K H x c) (hy : Dp K H y c) (h1 : Sh n c) (hn : n ≤ 64) (h : Q (.bl true) H) : rEqD K x y H Q := k_eqD hx hy h1 h1 hn (by rw [h1.refl]; exact h)
theorem k_getI {p : Addr} {ns : List Int} {i : Int} (hs : SqL K H p (ns.map V.int)) (h0 : 0 ≤ i) (h1 : i < ns.length) (h : Q (.int (ns.getD i.toNat 0)) H) : rGetL K (.ref p) (.int i) H Q := ⟨p, _, i, _, rfl, rfl, hs, h0, at_int h0 h1, h⟩
theorem k_setI {p : Addr} {ns : List Int} {k v : Int} {QH : Hp → Prop} (hp : H p = some (.lst (ns.map V.int))) (h0 : 0 ≤ k) (h1 : k < ns.length) (h : QH (upd H p (.lst ((ns.set k.toNat v).map V.int)))) : rSetL (.ref p) (.int k) (.int v) H QH :=
  ⟨p, _, k, k.toNat, rfl, rfl, hp, ixN_of h0 (by rw [List.length_map]; exact h1), by rw [List.map_set] at h; exact h⟩
theorem k_rep {p : Addr} {xs : List V} {k : Int} (hp : H p = some (.lst xs)) (h0 : 0 ≤ k) (h1 : k < 100000) (h2 : xs.length * k.toNat ≤ 100000) (h : ∀ l, H l = none → Q (.ref l) (upd H l (.lst (List.replicate k.toNat xs).flatten))) : rRep (.ref p) (.int k) H Q := ⟨p, k, xs, rfl, rfl, hp, by omega, by omega, sz h2, h⟩
theorem k_eqB {a b : Bool} (h : Q (.bl (decide (a = b))) H) : rEq (.bl a) (.bl b) H Q := ⟨rfl, by
  have e : decide (V.bl a = V.bl b) = decide (a = b) := by cases a <;> cases b <;> decide
  rw [e]; exact h⟩
theorem k_neB {a b : Bool} (h : Q (.bl (!decide (a = b))) H) : rNe (.bl a) (.bl b) H Q := ⟨rfl, by
  have e : decide (V.bl a = V.bl b) = decide (a = b) := by cases a <;> cases b <;> decide
  rw [e]; exact h⟩
/-- new objects, the heap behind as a letter -/
theorem k_newL {xs : List V} (hn : xs.length ≤ 100000) (h : ∀ p H', H p = none → Same H H' → H' p = some (.lst xs) → Q (.ref p) H') : xs.length ≤ sizeLine ∧ ∀ p, H p = none → Q (.ref p) (upd H p (.lst xs)) :=
  ⟨sz hn, fun p np => h p _ np (same_new np) upd_same⟩
theorem k_newT {xs : List V} (hn : xs.length ≤ 100000) (h : ∀ p H', H p = none → Same H H' → H' p = some (.tup xs) → Q (.ref p) H') : xs.length ≤ sizeLine ∧ ∀ p, H p = none → Q (.ref p) (upd H p (.tup xs)) :=
  ⟨sz hn, fun p np => h p _ np (same_new np) upd_same⟩
theorem k_listN {p : Addr} {ys : List V} (hs : SqL K H p ys) (h : ∀ l H', H l = none → Same H H' → H' l = some (.lst ys) → Q (.ref l) H') : rListOf K [.ref p] H Q := k_list hs fun l nl => h l _ nl (same_new nl) upd_same
theorem k_slL {a : Addr} {xs : List V} {lo hi : Option Int} (hs : SqL K H a xs) (h : ∀ p H', H p = none → Same H H' → H' p = some (.lst (cutV xs lo hi)) → Q (.ref p) H') : rSlL K (.ref a) lo hi H Q := ⟨a, xs, rfl, hs, fun p np => h p _ np (same_new np) upd_same⟩
theorem k_sl {r : V → Option Int → Option Int → Hp → VK → Prop} {tl th : TO} (h : te σ H fun x H1 => tl σ H1 fun l H2 => th σ H2 fun u H3 => r x l u H3 Q) : tSl r te tl th σ H Q := h
theorem k_nopart {QO : Option Int → Hp → Prop} (h : QO none H) : tNoPart σ H QO := h
theorem k_part {QO : Option Int → Hp → Prop} (h : te σ H fun x H1 => ∃ i, x = .int i ∧ QO (some i) H1) : tPart te σ H QO := h
theorem k_int {i : Int} {R : Int → Prop} (h : R i) : ∃ j, V.int i = .int j ∧ R j := ⟨i, rfl, h⟩
theorem rg_ints (a b : Int) : rgV a b = ((List.range (b - a).toNat).map fun i => a + (i : Nat)).map V.int := by
  unfold rgV; rw [List.map_map]; rfl
theorem k_listRg {tg : L2.St → Hp → (Int → Int → Hp → Prop) → Prop} (h : tg σ H fun a b H1 => RgOk a b ∧ ∀ q, H1 q = none → Q (.ref q) (upd H1 q (.lst (rgV a b)))) : tLstRg tg σ H Q := h
theorem k_rg1 {QR : Int → Int → Hp → Prop} (h : ta σ H fun x H1 => ∃ n, x = .int n ∧ QR 0 n H1) : tRg1 ta σ H QR := h
theorem k_rg2 {QR : Int → Int → Hp → Prop} (h : ta σ H fun x H1 => tb σ H1 fun y H2 => ∃ i j, x = .int i ∧ y = .int j ∧ QR i j H2) : tRg2 ta tb σ H QR := h
theorem k_int2 {i j : Int} {R : Int → Int → Prop} (h : R i j) : ∃ i' j', V.int i = .int i' ∧ V.int j = .int j' ∧ R i' j' := ⟨i, j, rfl, rfl, h⟩
theorem k_rgN {a b : Int} (hr : RgOk a b) (h : ∀ p H', H p = none → Same H H' → H' p = some (.lst (rgV a b)) → Q (.ref p) H') : RgOk a b ∧ ∀ q, H q = none → Q (.ref q) (upd H q (.lst (rgV a b))) := ⟨hr, fun q nq => h q _ nq (same_new nq) upd_same⟩
theorem dp_of_int {i j : Int} (e : i = j) : Dp K H (.int i) (.int j) := e ▸ .int i
end
/-! ### heaps with some places out of sight -/
def hid (S : List Addr) (H : Hp) : Hp := fun b => if b ∈ S then none else H b
theorem hid_ne {S : List Addr} {H : Hp} {b : Addr} (h : b ∉ S) : hid S H b = H b := if_neg h
theorem hid_in {S : List Addr} {H : Hp} {b : Addr} (h : b ∈ S) : hid S H b = none := if_pos h
theorem hid_some {S : List Addr} {H : Hp} {b : Addr} {o : HO} (h : hid S H b = some o) : b ∉ S ∧ H b = some o := by
  unfold hid at h
  split at h
  · cases h
  · exact ⟨by assumption, h⟩
theorem hid_same (S : List Addr) (H : Hp) : Same (hid S H) H := fun b o h => (hid_some h).2
theorem hid_mono {S : List Addr} {H H' : Hp} (e : Same H H') : Same (hid S H) (hid S H') := fun b o h => by
  obtain ⟨n, h⟩ := hid_some h
  rw [hid_ne n]
  exact e b o h
theorem hid_sub {S S' : List Addr} {H : Hp} (h : ∀ a ∈ S, a ∈ S') : Same (hid S' H) (hid S H) := fun b o e => by
  obtain ⟨n, e⟩ := hid_some e
  rw [hid_ne fun z => n (h b z)]
  exact e
/-- a change at a hidden place -/
theorem hid_upd {S : List Addr} {H : Hp} {p : Addr} {o : HO} (h : p ∈ S) : hid S (upd H p o) = hid S H := by
  funext b
  unfold hid
  split
  · rfl
  · rename_i n
    rw [upd_ne fun e => n (by rw [e]; exact h)]
theorem same_hid_upd {S : List Addr} {H0 H : Hp} {p : Addr} {o : HO} (e : Same H0 (hid S H)) (h : p ∈ S) : Same H0 (hid S (upd H p o)) := by rw [hid_upd h]; exact e
/-- what the law's data says stays when a fresh object is changed -/
theorem same_hid_mut {S : List Addr} {H0 H : Hp} {p : Addr} {o : HO} (e : Same H0 (hid S H)) (h : H0 p = none) : Same H0 (hid S (upd H p o)) := fun b u hb => by
  have := e b u hb
  obtain ⟨n, q⟩ := hid_some this
  rw [hid_ne n, upd_ne (ne_of_none hb h)]
  exact q
theorem hid_more {S S' : List Addr} {H H' : Hp} (e : Same (hid S H) (hid S H')) (h : ∀ a ∈ S, a ∈ S') : Same (hid S' H) (hid S' H') := fun b o hb => by
  obtain ⟨n, q⟩ := hid_some hb
  have n' : b ∉ S := fun z => n (h b z)
  have := e b o (by rw [hid_ne n']; exact q)
  rw [hid_ne n'] at this
  rw [hid_ne n]
  exact this
theorem same_hid_new {S : List Addr} {H : Hp} {p : Addr} {o : HO} (h : H p = none) : Same (hid S H) (hid S (upd H p o)) := hid_mono (same_new h)

theorem same_of_hid {S : List Addr} {H0 H1 H2 : Hp} (h : Same H0 H1) (f : ∀ a ∈ S, H0 a = none) (e : Same (hid S H1) (hid S H2)) : Same H0 H2 := fun b o hb => by
  have n : b ∉ S := fun z => by rw [f b z] at hb; cases hb
  have := e b o (by rw [hid_ne n]; exact h b o hb)
  rw [hid_ne n] at this
  exact this
theorem free1 {H0 : Hp} {p : Addr} (h : H0 p = none) : ∀ a ∈ [p], H0 a = none := fun a z => by rw [List.mem_singleton.mp z]; exact h
theorem cutTo {ns : List Int} (k : Nat) : cutV (ns.map V.int) none (some (k : Int)) = (ns.take k).map V.int := by
  unfold cutV
  rw [HT.sIx_none, HT.sIx_nat, List.drop_zero, List.length_map, Nat.sub_zero, List.map_take]
  by_cases h : k ≤ ns.length
  · rw [Nat.min_eq_left h]
  · rw [Nat.min_eq_right (by omega), List.take_of_length_le (by simp), List.take_of_length_le (by simp; omega)]
/-! ### the law's purse: a list of the cells and the turn -/
structure Pu (H : Hp) (pu ce : Addr) (n : Nat) (t : Int) : Prop where
  hp : H pu = some (.lst [.ref ce, .int t])
  hc : ∃ cs : List Int, cs.length = n ∧ H ce = some (.lst (cs.map V.int))
  n0 : 0 < n
  n1 : n ≤ 63
  t0 : 0 ≤ t
theorem Pu.ne {H : Hp} {pu ce : Addr} {n : Nat} {t : Int} (h : Pu H pu ce n t) : pu ≠ ce := fun e => by
  obtain ⟨cs, hl, hc⟩ := h.hc
  have hp := h.hp
  rw [e, hc] at hp
  cases cs with
  | nil => injection hp with hp; injection hp with hp; cases hp
  | cons x r => injection hp with hp; injection hp with hp; injection hp with h1 h2; cases h1
theorem Pu.fresh {H : Hp} {pu ce : Addr} {n : Nat} {t : Int} (h : Pu H pu ce n t) {p : Addr} (np : H p = none) : p ∉ [pu, ce] := fun z => by
  obtain ⟨cs, hl, hc⟩ := h.hc
  rcases List.mem_cons.mp z with rfl | z
  · rw [h.hp] at np; cases np
  · rcases List.mem_cons.mp z with rfl | z
    · rw [hc] at np; cases np
    · cases z
theorem Pu.upd {H : Hp} {pu ce : Addr} {n : Nat} {t : Int} (h : Pu H pu ce n t) {p : Addr} {o : HO} (np : p ∉ [pu, ce]) : Pu (upd H p o) pu ce n t := by
  have h1 : pu ≠ p := fun e => np (by rw [e]; exact List.mem_cons_self)
  have h2 : ce ≠ p := fun e => np (by rw [e]; exact List.mem_cons_of_mem _ List.mem_cons_self)
  obtain ⟨cs, hl, hc⟩ := h.hc
  exact ⟨by rw [upd_ne h1]; exact h.hp, ⟨cs, hl, by rw [upd_ne h2]; exact hc⟩, h.n0, h.n1, h.t0⟩
theorem Pu.same {H H' : Hp} {pu ce : Addr} {n : Nat} {t : Int} (h : Pu H pu ce n t) (e : Same H H') : Pu H' pu ce n t := by
  obtain ⟨cs, hl, hc⟩ := h.hc
  exact ⟨e _ _ h.hp, ⟨cs, hl, e _ _ hc⟩, h.n0, h.n1, h.t0⟩
/-- an object that is none of the purse's stays as it is -/
theorem keeps {S : List Addr} {H H' : Hp} (e : Same (hid S H) (hid S H')) {b : Addr} {o : HO} (hb : H b = some o) (n : b ∉ S) : H' b = some o := by
  have := e b o (by rw [hid_ne n]; exact hb)
  rw [hid_ne n] at this
  exact this
theorem fresh_hid {S : List Addr} {H H' : Hp} (e : Same (hid S H) (hid S H')) {b : Addr} (hb : H' b = none) (n : b ∉ S) : H b = none := by
  have := e.free (l := b) (by rw [hid_ne n]; exact hb)
  rw [hid_ne n] at this
  exact this
theorem getD_set_len {α : Type} (l : List α) (i : Nat) (v : α) : (l.set i v).length = l.length := List.length_set
theorem map_set_int (cs : List Int) (i : Nat) (v : Int) : (cs.map V.int).set i (.int v) = (cs.set i v).map V.int := by rw [List.map_set]

/-! ### the law's other purse: [a number, a mark, how many were drawn] -/
structure Le (H : Hp) (pu : Addr) (k : Int) : Prop where
  hp : ∃ x f : Int, H pu = some (.lst [.int x, .int f, .int k]) ∧ (f = 0 → 0 ≤ x ∧ x < 2147483629)
  k0 : 0 ≤ k
theorem Le.fresh {H : Hp} {pu : Addr} {k : Int} (h : Le H pu k) {p : Addr} (np : H p = none) : p ∉ [pu] := fun z => by
  obtain ⟨x, f, hp, _⟩ := h.hp
  rw [List.mem_singleton.mp z, hp] at np
  cases np
theorem Le.upd {H : Hp} {pu : Addr} {k : Int} (h : Le H pu k) {p : Addr} {o : HO} (np : p ∉ [pu]) : Le (upd H p o) pu k := by
  obtain ⟨x, f, hp, hx⟩ := h.hp
  exact ⟨⟨x, f, by rw [upd_ne fun e => np (by rw [e]; exact List.mem_singleton.mpr rfl)]; exact hp, hx⟩, h.k0⟩
theorem Le.same {H H' : Hp} {pu : Addr} {k : Int} (h : Le H pu k) (e : Same H H') : Le H' pu k := by
  obtain ⟨x, f, hp, hx⟩ := h.hp
  exact ⟨⟨x, f, e _ _ hp, hx⟩, h.k0⟩

/-! ### comprehensions whose block leaves the heap as it is -/
section
variable {K : PySem.W.Frag} {σ : L2.St} {H1 : Hp} {Q : VK} {g : TG} {tt : TT} {te : TE} {vs : List Nat}
theorem k_lc {wi : TI} (h : wi σ H1 fun J H1 => ∀ D, H1 D = none → ∃ W : Nat → Nat → Hp → Prop, (∃ m, W 0 m (upd H1 D (.lst []))) ∧ ∀ i m H, W i m H →
  (J.stop i H ∧ Q (.ref D) H) ∨ (J.go i H ∧ ∃ Nx : Hp → Prop, (∀ H', Nx H' → ∃ m', m' < m ∧ W (i + 1) m' H') ∧ ∀ x H', J.yld i H x H' → g x (wipe σ vs) H' fun σ2 H2 => wipe σ2 vs = wipe σ vs ∧ tt σ2 H2 fun b H3 =>
    if b = true then te σ2 H3 fun y H4 => ∃ acc, H4 D = some (.lst acc) ∧ acc.length < sizeLine ∧ Nx (upd H4 D (.lst (acc ++ [y]))) else Nx H3)) : tLc wi g tt te vs σ H1 Q := h
theorem k_wipe {σ' : L2.St} {R : Prop} (e : wipe σ' vs = wipe σ vs) (h : R) : wipe σ' vs = wipe σ vs ∧ R := ⟨e, h⟩
theorem k_yes {QT : Bool → Hp → Prop} (h : QT true H1) : tYes σ H1 QT := h
theorem take_filterMap {α β : Type} {f : α → Option β} {ps : List α} {i : Nat} {p : α} (h : ps[i]? = some p) : (ps.take (i + 1)).filterMap f = (ps.take i).filterMap f ++ (f p).toList := by
  rw [List.take_add_one, h, List.filterMap_append]
  simp [List.filterMap_cons]
  cases f p <;> rfl
/-- over a list of which ps tells the items -/
theorem lc_pure {QD : Addr → Hp → Prop} {α : Type} {a : Addr} {xs : List V} (hs : SqL K H1 a xs) (ps : List α) (hl : xs.length = ps.length) (hz : ps.length ≤ 50000) (f : α → Option V)
    (step : ∀ (i : Nat) x p H', xs[i]? = some x → ps[i]? = some p → Same H1 H' → ∀ (R : V → Hp → Prop) (R0 : Hp → Prop), (∀ y, f p = some y → R y H') → (f p = none → R0 H') →
      g x (wipe σ vs) H' fun σ2 H2 => wipe σ2 vs = wipe σ vs ∧ tt σ2 H2 fun b H3 => if b = true then te σ2 H3 R else R0 H3)
    (h : ∀ D H', H1 D = none → Same H1 H' → H' D = some (.lst (ps.filterMap f)) → QD D H') :
    ∃ a', V.ref a = .ref a' ∧ (∃ xs, SqL K H1 a' xs) ∧ ∀ D, H1 D = none → ∃ W : Nat → Nat → Hp → Prop, (∃ m, W 0 m (upd H1 D (.lst []))) ∧ ∀ i m H, W i m H →
      ((Itl K a').stop i H ∧ QD D H) ∨ ((Itl K a').go i H ∧ ∃ Nx : Hp → Prop, (∀ H', Nx H' → ∃ m', m' < m ∧ W (i + 1) m' H') ∧ ∀ x H', (Itl K a').yld i H x H' → g x (wipe σ vs) H' fun σ2 H2 => wipe σ2 vs = wipe σ vs ∧ tt σ2 H2 fun b H3 =>
        if b = true then te σ2 H3 fun y H4 => ∃ acc, H4 D = some (.lst acc) ∧ acc.length < sizeLine ∧ Nx (upd H4 D (.lst (acc ++ [y]))) else Nx H3) := by
  refine ⟨a, rfl, ⟨xs, hs⟩, fun D nD => lc_list (xs := xs) (fun i H => Same H1 H ∧ H D = some (.lst ((ps.take i).filterMap f))) ⟨same_new nD, by rw [upd_same]; simp⟩ (fun i H _ e => e.1.seq hs) ?_ ?_⟩
  · rintro i x H hx ⟨sm, hD⟩
    have hi : i < xs.length := (List.getElem?_eq_some_iff.mp hx).1
    obtain ⟨p, hp⟩ : ∃ p, ps[i]? = some p := ⟨ps[i]'(by omega), List.getElem?_eq_getElem (by omega)⟩
    have tk := take_filterMap (f := f) hp
    refine step i x p H hx hp sm _ _ (fun y hy => ⟨_, hD, szl ?_, same_mut sm nD, ?_⟩) (fun hn => ⟨sm, ?_⟩)
    · have := List.length_filterMap_le f (ps.take i)
      rw [List.length_take] at this
      omega
    · rw [upd_same, tk, hy]; rfl
    · rw [tk, hn, hD]; simp
  · rintro H ⟨sm, hD⟩
    rw [hl, List.take_length] at hD
    exact h D H nD sm hD
/-- the same where a turn may make new objects -/
theorem lc_grow {QD : Addr → Hp → Prop} {α : Type} {a : Addr} {xs : List V} (hs : SqL K H1 a xs) (ps : List α) (hl : xs.length = ps.length) (hz : ps.length ≤ 50000) (f : α → Option V)
    (step : ∀ (i : Nat) x p H', xs[i]? = some x → ps[i]? = some p → Same H1 H' → ∀ (R : V → Hp → Prop) (R0 : Hp → Prop), (∀ y H'', f p = some y → Same H' H'' → R y H'') → (∀ H'', f p = none → Same H' H'' → R0 H'') →
      g x (wipe σ vs) H' fun σ2 H2 => wipe σ2 vs = wipe σ vs ∧ tt σ2 H2 fun b H3 => if b = true then te σ2 H3 R else R0 H3)
    (h : ∀ D H', H1 D = none → Same H1 H' → H' D = some (.lst (ps.filterMap f)) → QD D H') :
    ∃ a', V.ref a = .ref a' ∧ (∃ xs, SqL K H1 a' xs) ∧ ∀ D, H1 D = none → ∃ W : Nat → Nat → Hp → Prop, (∃ m, W 0 m (upd H1 D (.lst []))) ∧ ∀ i m H, W i m H →
      ((Itl K a').stop i H ∧ QD D H) ∨ ((Itl K a').go i H ∧ ∃ Nx : Hp → Prop, (∀ H', Nx H' → ∃ m', m' < m ∧ W (i + 1) m' H') ∧ ∀ x H', (Itl K a').yld i H x H' → g x (wipe σ vs) H' fun σ2 H2 => wipe σ2 vs = wipe σ vs ∧ tt σ2 H2 fun b H3 =>
        if b = true then te σ2 H3 fun y H4 => ∃ acc, H4 D = some (.lst acc) ∧ acc.length < sizeLine ∧ Nx (upd H4 D (.lst (acc ++ [y]))) else Nx H3) := by
  refine ⟨a, rfl, ⟨xs, hs⟩, fun D nD => lc_list (xs := xs) (fun i H => Same H1 H ∧ H D = some (.lst ((ps.take i).filterMap f))) ⟨same_new nD, by rw [upd_same]; simp⟩ (fun i H _ e => e.1.seq hs) ?_ ?_⟩
  · rintro i x H hx ⟨sm, hD⟩
    have hi : i < xs.length := (List.getElem?_eq_some_iff.mp hx).1
    obtain ⟨p, hp⟩ : ∃ p, ps[i]? = some p := ⟨ps[i]'(by omega), List.getElem?_eq_getElem (by omega)⟩
    have tk := take_filterMap (f := f) hp
    refine step i x p H hx hp sm _ _ (fun y H'' hy s2 => ⟨_, s2 _ _ hD, szl ?_, same_mut (sm.trans s2) nD, ?_⟩) (fun H'' hn s2 => ⟨sm.trans s2, ?_⟩)
    · have := List.length_filterMap_le f (ps.take i)
      rw [List.length_take] at this
      omega
    · rw [upd_same, tk, hy]; rfl
    · rw [tk, hn, s2 _ _ hD]; simp
  · rintro H ⟨sm, hD⟩
    rw [hl, List.take_length] at hD
    exact h D H nD sm hD
theorem range_take {n i : Nat} (h : i < n) : (List.range n)[i]? = some i := by simp [h]
/-- over a range -/
theorem lc_pureR {QD : Addr → Hp → Prop} {lo : Int} {n : Nat} (hz : n ≤ 50000) (f : Nat → Option V)
    (step : ∀ (i : Nat) H', i < n → Same H1 H' → ∀ (R : V → Hp → Prop) (R0 : Hp → Prop), (∀ y, f i = some y → R y H') → (f i = none → R0 H') →
      g (.int (lo + (i : Nat))) (wipe σ vs) H' fun σ2 H2 => wipe σ2 vs = wipe σ vs ∧ tt σ2 H2 fun b H3 => if b = true then te σ2 H3 R else R0 H3)
    (h : ∀ D H', H1 D = none → Same H1 H' → H' D = some (.lst ((List.range n).filterMap f)) → QD D H') :
    ∀ D, H1 D = none → ∃ W : Nat → Nat → Hp → Prop, (∃ m, W 0 m (upd H1 D (.lst []))) ∧ ∀ i m H, W i m H →
      ((Itr lo n).stop i H ∧ QD D H) ∨ ((Itr lo n).go i H ∧ ∃ Nx : Hp → Prop, (∀ H', Nx H' → ∃ m', m' < m ∧ W (i + 1) m' H') ∧ ∀ x H', (Itr lo n).yld i H x H' → g x (wipe σ vs) H' fun σ2 H2 => wipe σ2 vs = wipe σ vs ∧ tt σ2 H2 fun b H3 =>
        if b = true then te σ2 H3 fun y H4 => ∃ acc, H4 D = some (.lst acc) ∧ acc.length < sizeLine ∧ Nx (upd H4 D (.lst (acc ++ [y]))) else Nx H3) := by
  refine fun D nD => lc_range (fun i H => Same H1 H ∧ H D = some (.lst (((List.range n).take i).filterMap f))) ⟨same_new nD, by rw [upd_same]; simp⟩ ?_ ?_
  · rintro i H hi ⟨sm, hD⟩
    have tk := take_filterMap (f := f) (range_take hi)
    refine step i H hi sm _ _ (fun y hy => ⟨_, hD, szl ?_, same_mut sm nD, ?_⟩) (fun hn => ⟨sm, ?_⟩)
    · have := List.length_filterMap_le f ((List.range n).take i)
      rw [List.length_take, List.length_range] at this
      omega
    · rw [upd_same, tk, hy]; rfl
    · rw [tk, hn, hD]; simp
  · rintro H ⟨sm, hD⟩
    rw [List.take_of_length_le (by simp)] at hD
    exact h D H nD sm hD
end
/-! ### min, max of a pair -/
def rMinT (K : PySem.W.Frag) : List V → Hp → VK → Prop := fun xs H Q => ∃ (p : Addr) (a b : Int), xs = [.ref p] ∧ SqT K H p [.int a, .int b] ∧ Q (.int (min a b)) H
def rMaxT (K : PySem.W.Frag) : List V → Hp → VK → Prop := fun xs H Q => ∃ (p : Addr) (a b : Int), xs = [.ref p] ∧ SqT K H p [.int a, .int b] ∧ Q (.int (max a b)) H
theorem reads_int {h : Heap} {v : Value} {n : Int} {as : List Addr} (r : Reads h v (.int n) as) : ∃ t, v = .int n t := by
  cases r; exact ⟨_, rfl⟩
theorem alike2 (a b : Int) : PySem.W.AlikeAll [.int a, .int b] := by
  refine ⟨fun x hx y hy => ?_, fun x hx => ?_⟩
  · simp only [List.mem_cons, List.not_mem_nil, or_false] at hx hy
    rcases hx with rfl | rfl <;> rcases hy with rfl | rfl <;> rfl
  · simp only [List.mem_cons, List.not_mem_nil, or_false] at hx
    rcases hx with rfl | rfl <;> (intro z; cases z)
theorem q_minT {X : Cx} (hc : X.calm = true) (hu : X.A.units + 64 < cLine) : CallR X (.builtin "min") (rMinT X.K) := by
  intro pins s σ H vs us Q I r h
  obtain ⟨p, a, b, rfl, hs, q⟩ := h
  obtain ⟨its, rv, hl, _⟩ := I.tuple hs
  rw [Vals.ref1 r]
  have ri : IntsAre its [a, b] := Vals.ints (ns := [a, b]) rv
  refine PySem.W.min_tuple_data (x := .int a) (xs := [.int b]) (as := []) (I.ok.hd hc) hl (ri.reads _) (alike2 a b) ?_ fun i v h' tk bs hi rd hk => ?_
  · have : PyData.depthAll [.int a, .int b] = 0 := rfl
    omega
  · rw [show PySem.W.minD (.int a) [.int b] = .int (min a b) from PySem.W.minD_ints a [b]] at rd
    obtain ⟨t, rfl⟩ := reads_int rd
    exact ⟨.int _, H, I.kept hk, ⟨_, rfl⟩, q⟩
theorem q_maxT {X : Cx} (hc : X.calm = true) (hu : X.A.units + 64 < cLine) : CallR X (.builtin "max") (rMaxT X.K) := by
  intro pins s σ H vs us Q I r h
  obtain ⟨p, a, b, rfl, hs, q⟩ := h
  obtain ⟨its, rv, hl, _⟩ := I.tuple hs
  rw [Vals.ref1 r]
  have ri : IntsAre its [a, b] := Vals.ints (ns := [a, b]) rv
  refine PySem.W.max_tuple_data (x := .int a) (xs := [.int b]) (as := []) (I.ok.hd hc) hl (ri.reads _) (alike2 a b) ?_ fun i v h' tk bs hi rd hk => ?_
  · have : PyData.depthAll [.int a, .int b] = 0 := rfl
    omega
  · rw [show PySem.W.maxD (.int a) [.int b] = .int (max a b) from PySem.W.maxD_ints a [b]] at rd
    obtain ⟨t, rfl⟩ := reads_int rd
    exact ⟨.int _, H, I.kept hk, ⟨_, rfl⟩, q⟩
theorem k_minT {K : PySem.W.Frag} {H : Hp} {Q : VK} {p : Addr} {a b : Int} (hs : SqT K H p [.int a, .int b]) (h : Q (.int (min a b)) H) : rMinT K [.ref p] H Q := ⟨p, a, b, rfl, hs, h⟩
theorem k_maxT {K : PySem.W.Frag} {H : Hp} {Q : VK} {p : Addr} {a b : Int} (hs : SqT K H p [.int a, .int b]) (h : Q (.int (max a b)) H) : rMaxT K [.ref p] H Q := ⟨p, a, b, rfl, hs, h⟩
end Cm

namespace Cm
open PySem PySem.Spec PyProof.Rows L2
/-! ### steps of a reading, found by instances -/
class Stp (p : Prop) (q : outParam Prop) : Prop where
  run : q → p
class Stps (p : Prop) (q : outParam Prop) : Prop where
  run : q → p
class Stps1 (p : Prop) (q : outParam Prop) : Prop where
  run : q → p
instance (priority := low) stps_nil {p : Prop} : Stps p p := ⟨id⟩
instance (priority := high) stps_cons {p q r : Prop} [a : Stp p q] [b : Stps q r] : Stps p r := ⟨fun h => a.run (b.run h)⟩
instance stps_one {p q r : Prop} [a : Stp p q] [b : Stps q r] : Stps1 p r := ⟨fun h => a.run (b.run h)⟩
theorem go {p q : Prop} [a : Stps1 p q] (h : q) : p := a.run h
class Slot (σ : L2.St) (i : Nat) (v : outParam V) : Prop where
  get : σ[i]? = some (some v)
instance {v : V} {r : L2.St} : Slot (some v :: r) 0 v := ⟨rfl⟩
instance {x : Option V} {v : V} {r : L2.St} {i : Nat} [a : Slot r i v] : Slot (x :: r) (i + 1) v := ⟨a.get⟩
class Put (σ : L2.St) (i : Nat) (v : Option V) (σ' : outParam L2.St) : Prop where
  eq : σ.set i v = σ'
instance {x v : Option V} {r : L2.St} : Put (x :: r) 0 v (v :: r) := ⟨rfl⟩
instance {x v : Option V} {r r' : L2.St} {i : Nat} [a : Put r i v r'] : Put (x :: r) (i + 1) v (x :: r') := ⟨by rw [List.set_cons_succ, a.eq]⟩
instance {σ σ0 σ' : L2.St} {j : Nat} {w : Option V} {i : Nat} {v : Option V} [a : Put σ j w σ0] [b : Put σ0 i v σ'] : Put (List.set σ j w) i v σ' := ⟨by rw [a.eq, b.eq]⟩
instance {σ σ0 : L2.St} {j : Nat} {w : Option V} {i : Nat} {v : V} [a : Put σ j w σ0] [b : Slot σ0 i v] : Slot (List.set σ j w) i v := ⟨by rw [a.eq, b.get]⟩
class Wip (σ : L2.St) (vs : List Nat) (σ' : outParam L2.St) : Prop where
  eq : wipe σ vs = σ'
instance {σ : L2.St} : Wip σ [] σ := ⟨rfl⟩
instance {σ σ' σ'' : L2.St} {i : Nat} {vs : List Nat} [b : Wip σ vs σ'] [a : Put σ' i none σ''] : Wip σ (i :: vs) σ'' := ⟨by
  show (wipe σ vs).set i none = σ''
  rw [b.eq, a.eq]⟩
instance {σ σ0 σ' : L2.St} {vs : List Nat} {i : Nat} {v : Option V} [a : Wip σ vs σ0] [b : Put σ0 i v σ'] : Put (wipe σ vs) i v σ' := ⟨by rw [a.eq, b.eq]⟩
/-- a new list, a new tuple -/
def newL (xs : List V) (H : Hp) (Q : VK) : Prop := xs.length ≤ sizeLine ∧ ∀ p, H p = none → Q (.ref p) (upd H p (.lst xs))
def newT (xs : List V) (H : Hp) (Q : VK) : Prop := xs.length ≤ sizeLine ∧ ∀ p, H p = none → Q (.ref p) (upd H p (.tup xs))
def newR (a b : Int) (H : Hp) (Q : VK) : Prop := RgOk a b ∧ ∀ q, H q = none → Q (.ref q) (upd H q (.lst (rgV a b)))
theorem kL {xs : List V} {H : Hp} {Q : VK} (hn : xs.length ≤ 100000) (h : ∀ p H', H p = none → Same H H' → H' p = some (.lst xs) → Q (.ref p) H') : newL xs H Q := ⟨sz hn, fun p np => h p _ np (same_new np) upd_same⟩
theorem kT {xs : List V} {H : Hp} {Q : VK} (hn : xs.length ≤ 100000) (h : ∀ p H', H p = none → Same H H' → H' p = some (.tup xs) → Q (.ref p) H') : newT xs H Q := ⟨sz hn, fun p np => h p _ np (same_new np) upd_same⟩
theorem kR {a b : Int} {H : Hp} {Q : VK} (hr : RgOk a b) (h : ∀ p H', H p = none → Same H H' → H' p = some (.lst (rgV a b)) → Q (.ref p) H') : newR a b H Q := ⟨hr, fun q nq => h q _ nq (same_new nq) upd_same⟩
section
variable {K : PySem.W.Frag} {σ σ' : L2.St} {H : Hp} {D : Ends} {Q : VK} {ta tb tc te to ti : TE} {t u : TT} {s1 s2 : TS} {QT : Bool → Hp → Prop} {QA : List V → Hp → Prop} {tr : TA} {QS : L2.St → Hp → Prop} {nx bk ct : L2.St → Hp → Prop} {rt : VK} {g : TG} {gs : TGs} {i j : Nat} {v w : V} {a b : Int} {wi : TI} {tS : TS}
instance : Stp (tSeq s1 s2 ⟨nx, rt, bk, ct⟩ σ H) (s1 ⟨s2 ⟨nx, rt, bk, ct⟩, rt, bk, ct⟩ σ H) := ⟨k_seq⟩
instance : Stp (tNext ⟨nx, rt, bk, ct⟩ σ H) (nx σ H) := ⟨k_next⟩
instance : Stp (tCont ⟨nx, rt, bk, ct⟩ σ H) (ct σ H) := ⟨k_cont⟩
instance : Stp (tBreak ⟨nx, rt, bk, ct⟩ σ H) (bk σ H) := ⟨k_brk⟩
instance : Stp (tAsg te g ⟨nx, rt, bk, ct⟩ σ H) (te σ H fun x H1 => g x σ H1 nx) := ⟨k_asg⟩
instance : Stp (tDrop te ⟨nx, rt, bk, ct⟩ σ H) (te σ H fun _ H1 => nx σ H1) := ⟨k_drop⟩
instance : Stp (tRet te ⟨nx, rt, bk, ct⟩ σ H) (te σ H rt) := ⟨k_ret⟩
instance : Stp (tRetN ⟨nx, rt, bk, ct⟩ σ H) (rt .non H) := ⟨k_retN⟩
instance {f : Int → Int → Int} [e : Slot σ i (.int a)] : Stp (tAug i te (ipI f) ⟨nx, rt, bk, ct⟩ σ H) (te σ H fun y H1 => ipI f (.int a) y H1 fun z H2 => gName i z σ H2 nx) := ⟨fun h => k_aug e.get h⟩
instance {f : Int → Int → Int} : Stp (ipI f (.int a) (.int b) H Q) (Q (.int (f a b)) H) := ⟨k_ipI⟩
instance : Stp (xAugL K to ti te ⟨nx, rt, bk, ct⟩ σ H) (to σ H fun o H1 => ti σ H1 fun i H2 => rGetL K o i H2 fun x H3 => te σ H3 fun y H4 => ipI (fun i j => i + j) x y H4 fun z H5 => rSetL o i z H5 fun H6 => nx σ H6) := ⟨k_augL⟩
instance : Stp (tIfS t s1 s2 D σ H) (t σ H fun b H1 => if b = true then s1 D σ H1 else s2 D σ H1) := ⟨k_if⟩
instance [e : Slot σ i v] : Stp (tVar i σ H Q) (Q v H) := ⟨fun h => k_var e.get h⟩
instance : Stp (tC v σ H Q) (Q v H) := ⟨k_c⟩
instance {r : R2} : Stp (tOp r ta tb σ H Q) (ta σ H fun x H1 => tb σ H1 fun y H2 => r x y H2 Q) := ⟨k_op⟩
instance {r : V → Hp → VK → Prop} : Stp (tUn r ta σ H Q) (ta σ H fun x H1 => r x H1 Q) := ⟨k_un⟩
instance : Stp (xAdd (.int a) (.int b) H Q) (Q (.int (a + b)) H) := ⟨k_add⟩
instance : Stp (xSub (.int a) (.int b) H Q) (Q (.int (a - b)) H) := ⟨k_sub⟩
instance : Stp (xLt (.int a) (.int b) H Q) (Q (.bl (decide (a < b))) H) := ⟨k_lt⟩
instance : Stp (xLe (.int a) (.int b) H Q) (Q (.bl (decide (a ≤ b))) H) := ⟨k_le⟩
instance : Stp (xGt (.int a) (.int b) H Q) (Q (.bl (decide (b < a))) H) := ⟨k_gt⟩
instance : Stp (xGe (.int a) (.int b) H Q) (Q (.bl (decide (b ≤ a))) H) := ⟨k_ge⟩
instance : Stp (xNeg (.int a) H Q) (Q (.int (-a)) H) := ⟨k_neg⟩
instance : Stp (rEq (.int a) (.int b) H Q) (Q (.bl (decide (a = b))) H) := ⟨k_eqI⟩
instance : Stp (rNe (.int a) (.int b) H Q) (Q (.bl (!decide (a = b))) H) := ⟨k_neI⟩
instance {a b : Bool} : Stp (rEq (.bl a) (.bl b) H Q) (Q (.bl (decide (a = b))) H) := ⟨k_eqB⟩
instance {a b : Bool} : Stp (rNe (.bl a) (.bl b) H Q) (Q (.bl (!decide (a = b))) H) := ⟨k_neB⟩
theorem k_eqNN (h : Q (.bl true) H) : rEq .non .non H Q := ⟨rfl, h⟩
theorem k_isN0 (h : Q (.bl true) H) : xIsN .non .non H Q := ⟨rfl, h⟩
theorem k_isNr {p : Addr} (h : Q (.bl false) H) : xIsN (.ref p) .non H Q := ⟨rfl, by rw [decide_eq_false (by intro z; cases z)]; exact h⟩
theorem k_isNi (h : Q (.bl false) H) : xIsN (.int a) .non H Q := ⟨rfl, by rw [decide_eq_false (by intro z; cases z)]; exact h⟩
theorem k_notN0 (h : Q (.bl false) H) : xNotN .non .non H Q := ⟨rfl, h⟩
theorem k_notNr {p : Addr} (h : Q (.bl true) H) : xNotN (.ref p) .non H Q := ⟨rfl, by rw [decide_eq_false (by intro z; cases z)]; exact h⟩
theorem k_notNi (h : Q (.bl true) H) : xNotN (.int a) .non H Q := ⟨rfl, by rw [decide_eq_false (by intro z; cases z)]; exact h⟩
instance : Stp (xIsN .non .non H Q) (Q (.bl true) H) := ⟨k_isN0⟩
instance {p : Addr} : Stp (xIsN (.ref p) .non H Q) (Q (.bl false) H) := ⟨k_isNr⟩
instance : Stp (xIsN (.int a) .non H Q) (Q (.bl false) H) := ⟨k_isNi⟩
instance : Stp (xNotN .non .non H Q) (Q (.bl false) H) := ⟨k_notN0⟩
instance {p : Addr} : Stp (xNotN (.ref p) .non H Q) (Q (.bl true) H) := ⟨k_notNr⟩
instance : Stp (xNotN (.int a) .non H Q) (Q (.bl true) H) := ⟨k_notNi⟩
instance : Stp (tTest te σ H QT) (te σ H fun x H1 => ∃ k, x = .bl k ∧ QT k H1) := ⟨k_test⟩
instance : Stp (tB te σ H QT) (te σ H fun x H1 => ∃ k, x = .bl k ∧ QT k H1) := ⟨k_B⟩
instance {b : Bool} {R : Bool → Prop} : Stp (∃ k, V.bl b = .bl k ∧ R k) (R b) := ⟨k_bl⟩
instance {R : Int → Prop} : Stp (∃ j, V.int a = .int j ∧ R j) (R a) := ⟨k_int⟩
instance {R : Int → Int → Prop} : Stp (∃ i' j', V.int a = .int i' ∧ V.int b = .int j' ∧ R i' j') (R a b) := ⟨k_int2⟩
instance : Stp (tAnd t u σ H QT) (t σ H fun c H1 => if c = true then u σ H1 QT else QT false H1) := ⟨k_and⟩
instance : Stp (tOr t u σ H QT) (t σ H fun c H1 => if c = true then QT true H1 else u σ H1 QT) := ⟨k_or⟩
instance : Stp (tNot t σ H QT) (t σ H fun c H1 => QT (!c) H1) := ⟨k_not⟩
instance : Stp (tNotV ta σ H Q) (ta σ H fun x H1 => ∃ c, x = .bl c ∧ Q (.bl (!c)) H1) := ⟨k_notV⟩
instance : Stp (tAndV ta tb σ H Q) (ta σ H fun x H1 => ∃ c, x = .bl c ∧ if c = true then tb σ H1 Q else Q (.bl false) H1) := ⟨k_andV⟩
instance : Stp (tOrV ta tb σ H Q) (ta σ H fun x H1 => ∃ c, x = .bl c ∧ if c = true then Q (.bl true) H1 else tb σ H1 Q) := ⟨k_orV⟩
instance {r : List V → Hp → VK → Prop} : Stp (tCB r tr σ H Q) (tr σ H fun vs H1 => r vs H1 Q) := ⟨k_cb⟩
instance : Stp (tNil σ H QA) (QA [] H) := ⟨k_nil⟩
instance : Stp (tCons ta tr σ H QA) (ta σ H fun x H1 => tr σ H1 fun xs H2 => QA (x :: xs) H2) := ⟨k_cons⟩
instance {sp : Sp} {E : XK} : Stp (tCall sp [] E tr σ H Q) (tr σ H fun vs H1 => sp vs H1 Q E) := ⟨fun h => k_call (by simpa only [List.append_nil] using h)⟩
instance : Stp (tLst tr σ H Q) (tr σ H fun xs H1 => newL xs H1 Q) := ⟨k_lst⟩
instance : Stp (tTup tr σ H Q) (tr σ H fun xs H1 => newT xs H1 Q) := ⟨k_tup⟩
instance {r : List V} : Stp (gCons g gs (v :: r) σ H QS) (g v σ H fun σ' H' => gs r σ' H' QS) := ⟨k_gcons⟩
instance : Stp (gNil [] σ H QS) (QS σ H) := ⟨k_gnil⟩
instance [e : Put σ i (some v) σ'] : Stp (gName i v σ H QS) (QS σ' H) := ⟨fun h => k_gname (by rw [e.eq]; exact h)⟩
instance {ts : TSet} : Stp (gSub to ti ts v σ H QS) (to σ H fun o H1 => ti σ H1 fun i H2 => ts o i v H2 fun H3 => QS σ H3) := ⟨k_gsub⟩
instance : Stp (rMax2 [.int a, .int b] H Q) (Q (.int (if b > a then b else a)) H) := ⟨k_max2⟩
instance : Stp (rMin2 [.int a, .int b] H Q) (Q (.int (if b < a then b else a)) H) := ⟨k_min2⟩
instance {T : String} {r : V → List V → Hp → VK → Prop} : Stp (tBM K T r ta tr σ H Q) (ta σ H fun x H1 => tyV K T x H1 ∧ tr σ H1 fun xs H2 => r x xs H2 Q) := ⟨k_bm⟩
instance {T : String} {r : V → List V → Hp → VK → Prop} : Stp (tBM0 K T r ta σ H Q) (ta σ H fun x H1 => tyV K T x H1 ∧ r x [] H1 Q) := ⟨k_bm0⟩
instance {A B : Prop} {i : Decidable (true = true)} : Stp (@ite Prop (true = true) i A B) A := ⟨fun h => by rw [if_pos rfl]; exact h⟩
instance {A B : Prop} {i : Decidable (false = true)} : Stp (@ite Prop (false = true) i A B) B := ⟨fun h => by rw [if_neg (by simp)]; exact h⟩
instance {A B : Prop} {i : Decidable ((!true) = true)} : Stp (@ite Prop ((!true) = true) i A B) B := ⟨fun h => by rw [if_neg (by simp)]; exact h⟩
instance {A B : Prop} {i : Decidable ((!false) = true)} : Stp (@ite Prop ((!false) = true) i A B) A := ⟨fun h => by rw [if_pos (by simp)]; exact h⟩
instance : Stp (tFor wi g tS ⟨nx, rt, bk, ct⟩ σ H) (wi σ H fun J H1 => ∃ W : Nat → Nat → L2.St → Hp → Prop, (∃ m, W 0 m σ H1) ∧ ∀ i m σ H, W i m σ H →
  (J.stop i H ∧ nx σ H) ∨ (J.go i H ∧ ∃ N : L2.St → Hp → Prop, (∀ σ' H', N σ' H' → ∃ m', m' < m ∧ W (i + 1) m' σ' H') ∧ ∀ x H', J.yld i H x H' → g x σ H' fun σ2 H2 => tS ⟨N, rt, nx, N⟩ σ2 H2)) := ⟨k_for⟩
instance {R : It → Hp → Prop} : Stp (iList K te σ H R) (te σ H fun x H1 => ∃ a, x = .ref a ∧ (∃ xs, SqL K H1 a xs) ∧ R (Itl K a) H1) := ⟨k_iList⟩
instance {R : It → Hp → Prop} : Stp (iTup K te σ H R) (te σ H fun x H1 => ∃ a, x = .ref a ∧ (∃ xs, SqT K H1 a xs) ∧ R (Itt K a) H1) := ⟨k_iTup⟩
instance {R : It → Hp → Prop} : Stp (iZip K tr σ H R) (tr σ H fun vs H1 => ∃ a b xs ys, vs = [.ref a, .ref b] ∧ SqL K H1 a xs ∧ SqL K H1 b ys ∧ R (Itz K a b) H1) := ⟨k_iZip⟩
instance {R : It → Hp → Prop} : Stp (iEnum K tr σ H R) (tr σ H fun vs H1 => ∃ a xs, vs = [.ref a] ∧ SqL K H1 a xs ∧ R (Ite K a) H1) := ⟨k_iEnum⟩
instance {R : It → Hp → Prop} : Stp (iRng1 tr σ H R) (tr σ H fun vs H1 => ∃ j : Int, vs = [.int j] ∧ -(2 ^ 62) ≤ j ∧ j < 2 ^ 62 ∧ R (Itr 0 j.toNat) H1) := ⟨k_iRng1⟩
instance {R : It → Hp → Prop} : Stp (iRng2 tr σ H R) (tr σ H fun vs H1 => ∃ i j : Int, vs = [.int i, .int j] ∧ (-(2 ^ 62) ≤ i ∧ i < 2 ^ 62 ∧ -(2 ^ 62) ≤ j ∧ j < 2 ^ 62) ∧ R (Itr i (j - i).toNat) H1) := ⟨k_iRng2⟩
instance {vs : List Nat} : Stp (tLc wi g t te vs σ H Q) (wi σ H fun J H1 => ∀ D, H1 D = none → ∃ W : Nat → Nat → Hp → Prop, (∃ m, W 0 m (upd H1 D (.lst []))) ∧ ∀ i m H, W i m H →
  (J.stop i H ∧ Q (.ref D) H) ∨ (J.go i H ∧ ∃ Nx : Hp → Prop, (∀ H', Nx H' → ∃ m', m' < m ∧ W (i + 1) m' H') ∧ ∀ x H', J.yld i H x H' → g x (wipe σ vs) H' fun σ2 H2 => wipe σ2 vs = wipe σ vs ∧ t σ2 H2 fun b H3 =>
    if b = true then te σ2 H3 fun y H4 => ∃ acc, H4 D = some (.lst acc) ∧ acc.length < sizeLine ∧ Nx (upd H4 D (.lst (acc ++ [y]))) else Nx H3)) := ⟨k_lc⟩
instance : Stp (tYes σ H QT) (QT true H) := ⟨k_yes⟩
instance {r : V → Option Int → Option Int → Hp → VK → Prop} {tl th : TO} : Stp (tSl r te tl th σ H Q) (te σ H fun x H1 => tl σ H1 fun l H2 => th σ H2 fun u H3 => r x l u H3 Q) := ⟨k_sl⟩
instance {QO : Option Int → Hp → Prop} : Stp (tNoPart σ H QO) (QO none H) := ⟨k_nopart⟩
instance {QO : Option Int → Hp → Prop} : Stp (tPart te σ H QO) (te σ H fun x H1 => ∃ i, x = .int i ∧ QO (some i) H1) := ⟨k_part⟩
instance {tg : L2.St → Hp → (Int → Int → Hp → Prop) → Prop} : Stp (tLstRg tg σ H Q) (tg σ H fun a b H1 => newR a b H1 Q) := ⟨k_listRg⟩
instance {QR : Int → Int → Hp → Prop} : Stp (tRg1 ta σ H QR) (ta σ H fun x H1 => ∃ n, x = .int n ∧ QR 0 n H1) := ⟨k_rg1⟩
instance {QR : Int → Int → Hp → Prop} : Stp (tRg2 ta tb σ H QR) (ta σ H fun x H1 => tb σ H1 fun y H2 => ∃ i j, x = .int i ∧ y = .int j ∧ QR i j H2) := ⟨k_rg2⟩
instance : Stp (rIsi K [.int a, .ty "int"] H Q) (Q (.bl true) H) := ⟨k_isiI⟩
instance : Stp (rIsi K [.int a, .ty "bool"] H Q) (Q (.bl false) H) := ⟨k_isiB⟩
instance : Stp (rIsi K [.int a, .ty "list"] H Q) (Q (.bl false) H) := ⟨k_isiLI⟩
instance {b : Bool} : Stp (rIntOf [.bl b] H Q) (Q (.int (if b then 1 else 0)) H) := ⟨k_intB⟩
theorem k_chain {r r' : R2} (h : ta σ H fun x H1 => tb σ H1 fun y H2 => r x y H2 fun z H3 => ∃ k, z = .bl k ∧ if k = true then tc σ H3 fun z H4 => r' y z H4 Q else Q (.bl false) H3) : tChain r r' ta tb tc σ H Q := h
instance {r r' : R2} : Stp (tChain r r' ta tb tc σ H Q) (ta σ H fun x H1 => tb σ H1 fun y H2 => r x y H2 fun z H3 => ∃ k, z = .bl k ∧ if k = true then tc σ H3 fun z H4 => r' y z H4 Q else Q (.bl false) H3) := ⟨k_chain⟩
theorem k_ifE (h : t σ H fun c H1 => if c = true then ta σ H1 Q else tb σ H1 Q) : tIf t ta tb σ H Q := h
instance : Stp (tIf t ta tb σ H Q) (t σ H fun c H1 => if c = true then ta σ H1 Q else tb σ H1 Q) := ⟨k_ifE⟩
def par2 (i j : Nat) (vs : List V) (σ : L2.St) (H : Hp) (nx : L2.St → Hp → Prop) : Prop := ∃ v w, vs = [v, w] ∧ nx ((σ.set i (some v)).set j (some w)) H
instance : Stp (tPar i j tr ⟨nx, rt, bk, ct⟩ σ H) (tr σ H fun vs H1 => par2 i j vs σ H1 nx) := ⟨fun h => h⟩
instance {σ'' : L2.St} [e : Put σ i (some v) σ'] [e2 : Put σ' j (some w) σ''] : Stp (par2 i j [v, w] σ H nx) (nx σ'' H) := ⟨fun h => ⟨v, w, rfl, by rw [e.eq, e2.eq]; exact h⟩⟩
end
/-! ### list.count of flat values -/
def cntV (y : V) (ys : List V) : Nat := ys.countP fun z => eqV z y
def rCntV (K : PySem.W.Frag) : V → List V → Hp → VK → Prop := fun x xs H Q => ∃ (a : Addr) (ys : List V) (y : V), x = V.ref a ∧ xs = [y] ∧ SqL K H a ys ∧ flatV y = true ∧ ys.all flatV = true ∧ Q (.int (cntV y ys : Nat)) H
theorem cntV_eq {y : V} : ∀ {ys : List V} {its : List Value}, Vals ys its → ys.all flatV = true → its.countP (eqU y) = cntV y ys
  | _, _, .nil, _ => rfl
  | a :: as, _ :: _, .cons r rs, f => by
    have f1 : flatV a = true ∧ as.all flatV = true := by simpa using f
    unfold cntV
    rw [List.countP_cons, List.countP_cons, eqU_of r f1.1, cntV_eq rs f1.2]
    rfl
theorem mt_lcountV {X : Cx} : MtR X "list.count" (rCntV X.K) := by
  intro pins s σ H x xs v us Q I rx rxs h
  obtain ⟨a, ys, y, rfl, rfl, hs, fy, fys, q⟩ := h
  cases rx
  cases rxs with
  | cons ry rt =>
    rename_i uy ut
    cases rt
    obtain ⟨its, rv, ⟨⟨cls, dd, data, sl⟩, n, ho, hc, hdn, hd⟩, hlen⟩ := I.list hs
    simp only at hc hd
    subst hc hd
    refine call_meets PySem.F.slot_list_count ⟨_, ho, rfl⟩ PySem.F.entry_list_count (PySem.F.args_list_count_2 _ _)
      (SeqAt.list_countAt a its.toArray n dd sl uy (eqU y)) ⟨ho, fun u' hu' => mem_eqAt ry fy rv fys u' (by simpa using hu'), ?_⟩
    have ec : its.toArray.toList.countP (eqU y) = cntV y ys := cntV_eq rv fys
    refine ⟨.int (cntV y ys : Nat), H, I.tok _, ⟨s.toks, ?_⟩, q⟩
    show Value.int ((its.toArray.toList.countP (eqU y) : Nat) : Int) s.toks = Value.int ((cntV y ys : Nat) : Int) s.toks
    rw [ec]
section
variable {K : PySem.W.Frag} {H : Hp} {Q : VK}
theorem k_catN {p q : Addr} {xs ys : List V} (hp : H p = some (.lst xs)) (hq : H q = some (.lst ys)) (hz : xs.length + ys.length ≤ 100000) (h : ∀ l H', H l = none → Same H H' → H' l = some (.lst (xs ++ ys)) → Q (.ref l) H') : rCat (.ref p) (.ref q) H Q := k_cat hp hq hz fun l nl => h l _ nl (same_new nl) upd_same
theorem k_cntV {p : Addr} {ys : List V} {y : V} (hs : SqL K H p ys) (fy : flatV y = true) (fys : ys.all flatV = true) (h : Q (.int (cntV y ys : Nat)) H) : rCntV K (.ref p) [y] H Q := ⟨p, ys, y, rfl, rfl, hs, fy, fys, h⟩
theorem k_indexV {p : Addr} {ys : List V} {y z : V} {j : Nat} (hs : SqL K H p ys) (fy : flatV y = true) (fys : ys.all flatV = true) (hj : ys[j]? = some z) (hz : eqV z y = true) (hn : ∀ (m : Nat) (z' : V), m < j → ys[m]? = some z' → eqV z' y = false) (h : Q (.int (j : Nat)) H) : rIndex K (.ref p) [y] H Q := ⟨p, ys, y, j, z, rfl, rfl, hs, fy, fys, hj, hz, hn, h⟩
theorem k_sortedN {a : Addr} {ns : List Int} (hs : SqL K H a (ns.map V.int)) (h : ∀ (ns' : List Int) (p : Addr) H', ns'.Perm ns → ns'.Pairwise (· ≤ ·) → H p = none → Same H H' → H' p = some (.lst (ns'.map V.int)) → Q (.ref p) H') : rSortedI K [.ref a] H Q := k_sortedI hs fun ns' p h1 h2 h3 => h ns' p _ h1 h2 h3 (same_new h3) upd_same
end
/-! ### facts of older heaps -/
theorem hid_back {S : List Addr} {X Y : Hp} (h : Same X (hid S Y)) : Same X Y := h.trans (hid_same S Y)
theorem at_same {X Y : Hp} {p : Addr} {o : HO} (h : X p = some o) (s : Same X Y) : Y p = some o := s _ _ h
theorem sl_at {K : PySem.W.Frag} {X Y : Hp} {p : Addr} {xs : List V} (h : X p = some (.lst xs)) (s : Same X Y) : SqL K Y p xs := sl (s _ _ h)
theorem st_at {K : PySem.W.Frag} {X Y : Hp} {p : Addr} {xs : List V} (h : X p = some (.tup xs)) (s : Same X Y) : SqT K Y p xs := stp (s _ _ h)
theorem dpI_at {K : PySem.W.Frag} {X Y : Hp} {p : Addr} {ns : List Int} (h : X p = some (.lst (ns.map V.int))) (s : Same X Y) : Dp K Y (.ref p) (dInts ns) := dp_of_ints (sl (s _ _ h))
theorem dpP_at {K : PySem.W.Frag} {X Y : Hp} {p : Addr} {a b : Int} (h : X p = some (.tup [.int a, .int b])) (s : Same X Y) : Dp K Y (.ref p) (dPair (a, b)) := dp_of_pair (stp (s _ _ h))
theorem hid_free {S : List Addr} {H : Hp} (f : ∀ a ∈ S, H a = none) : Same H (hid S H) := fun b o hb => by
  rw [hid_ne fun z => by rw [f b z] at hb; cases hb]; exact hb
theorem hid_free1 {p : Addr} {H : Hp} (f : H p = none) : Same H (hid [p] H) := hid_free (free1 f)
theorem cut_to (xs : List V) (k : Nat) : cutV xs none (some (k : Int)) = xs.take k := by
  unfold cutV
  rw [HT.sIx_none, HT.sIx_nat, List.drop_zero, Nat.sub_zero]
  by_cases h : k ≤ xs.length
  · rw [Nat.min_eq_left h]
  · rw [Nat.min_eq_right (by omega), List.take_of_length_le (by simp), List.take_of_length_le (by omega)]
theorem cut_from (xs : List V) (k : Nat) : cutV xs (some (k : Int)) none = xs.drop k := by
  unfold cutV
  rw [HT.sIx_none, HT.sIx_nat]
  by_cases h : k ≤ xs.length
  · rw [Nat.min_eq_left h]
    exact List.take_of_length_le (by simp)
  · rw [Nat.min_eq_right (by omega), List.drop_of_length_le (Nat.le_refl _), List.drop_of_length_le (by omega), List.take_nil]
theorem dpa_take {K : PySem.W.Frag} {H : Hp} : ∀ {vs : List V} {ds : List PyData} (n : Nat), DpAll K H vs ds → DpAll K H (vs.take n) (ds.take n)
  | _, _, 0, _ => by simp only [List.take_zero]; exact .nil
  | _, _, n + 1, .nil => by simp only [List.take_nil]; exact .nil
  | _, _, n + 1, .cons h r => .cons h (dpa_take n r)
theorem dpa_drop {K : PySem.W.Frag} {H : Hp} : ∀ {vs : List V} {ds : List PyData} (n : Nat), DpAll K H vs ds → DpAll K H (vs.drop n) (ds.drop n)
  | _, _, 0, h => h
  | _, _, n + 1, .nil => by simp only [List.drop_nil]; exact .nil
  | _, _, n + 1, .cons _ r => dpa_drop n r
theorem Le.at {H H' : Hp} {pu p : Addr} {k : Int} {o : HO} (L : Le H pu k) (np : H p = none) (e : H' p = some o) : hid [pu] H' p = some o := by rw [hid_ne (L.fresh np)]; exact e
theorem hat {H : Hp} {pu p : Addr} {o : HO} (np : p ∉ [pu]) (e : H p = some o) : hid [pu] H p = some o := by rw [hid_ne np]; exact e
theorem kLp {xs : List V} {H : Hp} {Q : VK} {pu : Addr} {k : Int} (L : Le H pu k) (hn : xs.length ≤ 100000) (h : ∀ p H', H p = none → Same H H' → hid [pu] H' p = some (.lst xs) → Q (.ref p) H') : newL xs H Q := ⟨sz hn, fun p np => h p _ np (same_new np) (L.at np upd_same)⟩
theorem kTp {xs : List V} {H : Hp} {Q : VK} {pu : Addr} {k : Int} (L : Le H pu k) (hn : xs.length ≤ 100000) (h : ∀ p H', H p = none → Same H H' → hid [pu] H' p = some (.tup xs) → Q (.ref p) H') : newT xs H Q := ⟨sz hn, fun p np => h p _ np (same_new np) (L.at np upd_same)⟩
theorem sh_l2 {n : Nat} {c d : PyData} (h1 : Sh n c) (h2 : Sh n d) : Sh (n + 1) (.list [c, d]) := sh_list fun x hx => by
  rcases List.mem_cons.mp hx with rfl | hx
  · exact h1
  · rcases List.mem_cons.mp hx with rfl | hx
    · exact h2
    · cases hx
section
variable {K : PySem.W.Frag} {σ : L2.St} {H1 : Hp} {Q : VK} {g : TG} {tt : TT} {te : TE} {vs : List Nat}
/-- over a range, new objects may be made -/
theorem lc_growR {QD : Addr → Hp → Prop} {lo : Int} {n : Nat} (hz : n ≤ 50000) (f : Nat → Option V)
    (step : ∀ (i : Nat) H', i < n → Same H1 H' → ∀ (R : V → Hp → Prop) (R0 : Hp → Prop), (∀ y H'', f i = some y → Same H' H'' → R y H'') → (∀ H'', f i = none → Same H' H'' → R0 H'') →
      g (.int (lo + (i : Nat))) (wipe σ vs) H' fun σ2 H2 => wipe σ2 vs = wipe σ vs ∧ tt σ2 H2 fun b H3 => if b = true then te σ2 H3 R else R0 H3)
    (h : ∀ D H', H1 D = none → Same H1 H' → H' D = some (.lst ((List.range n).filterMap f)) → QD D H') :
    ∀ D, H1 D = none → ∃ W : Nat → Nat → Hp → Prop, (∃ m, W 0 m (upd H1 D (.lst []))) ∧ ∀ i m H, W i m H →
      ((Itr lo n).stop i H ∧ QD D H) ∨ ((Itr lo n).go i H ∧ ∃ Nx : Hp → Prop, (∀ H', Nx H' → ∃ m', m' < m ∧ W (i + 1) m' H') ∧ ∀ x H', (Itr lo n).yld i H x H' → g x (wipe σ vs) H' fun σ2 H2 => wipe σ2 vs = wipe σ vs ∧ tt σ2 H2 fun b H3 =>
        if b = true then te σ2 H3 fun y H4 => ∃ acc, H4 D = some (.lst acc) ∧ acc.length < sizeLine ∧ Nx (upd H4 D (.lst (acc ++ [y]))) else Nx H3) := by
  refine fun D nD => lc_range (fun i H => Same H1 H ∧ H D = some (.lst (((List.range n).take i).filterMap f))) ⟨same_new nD, by rw [upd_same]; simp⟩ ?_ ?_
  · rintro i H hi ⟨sm, hD⟩
    have tk := take_filterMap (f := f) (range_take hi)
    refine step i H hi sm _ _ (fun y H'' hy s2 => ⟨_, s2 _ _ hD, szl ?_, same_mut (sm.trans s2) nD, ?_⟩) (fun H'' hn s2 => ⟨sm.trans s2, ?_⟩)
    · have := List.length_filterMap_le f ((List.range n).take i)
      rw [List.length_take, List.length_range] at this
      omega
    · rw [upd_same, tk, hy]; rfl
    · rw [tk, hn, s2 _ _ hD]; simp
  · rintro H ⟨sm, hD⟩
    rw [List.take_of_length_le (by simp)] at hD
    exact h D H nD sm hD
end
/-- behind an if: what follows is shown once -/
theorem ifjoin {c : Bool} {σ : L2.St} {H : Hp} {s1 s2 : TS} {nx bk ct : L2.St → Hp → Prop} {rt : VK} (G : L2.St → Hp → Prop) (main : ∀ σ H, G σ H → nx σ H) (h : (∀ σ H, G σ H → nx σ H) → if c = true then s1 ⟨nx, rt, bk, ct⟩ σ H else s2 ⟨nx, rt, bk, ct⟩ σ H) : if c = true then s1 ⟨nx, rt, bk, ct⟩ σ H else s2 ⟨nx, rt, bk, ct⟩ σ H := h main
theorem k_repN {H : Hp} {Q : VK} {p : Addr} {xs : List V} {k : Int} (hp : H p = some (.lst xs)) (h0 : 0 ≤ k) (h1 : k < 100000) (h2 : xs.length * k.toNat ≤ 100000) (h : ∀ l H', H l = none → Same H H' → H' l = some (.lst (List.replicate k.toNat xs).flatten) → Q (.ref l) H') : rRep (.ref p) (.int k) H Q := k_rep hp h0 h1 h2 fun l nl => h l _ nl (same_new nl) upd_same
theorem ixN_last {n : Nat} (h : 0 < n) : ixN n (-1) = some (n - 1) := by
  unfold ixN
  rw [if_neg (by omega)]
  split
  · simp; omega
  · omega
theorem ifsjoin {t : TT} {σ : L2.St} {H : Hp} {s1 s2 : TS} {nx bk ct : L2.St → Hp → Prop} {rt : VK} (G : L2.St → Hp → Prop) (main : ∀ σ H, G σ H → nx σ H) (h : (∀ σ H, G σ H → nx σ H) → tIfS t s1 s2 ⟨nx, rt, bk, ct⟩ σ H) : tIfS t s1 s2 ⟨nx, rt, bk, ct⟩ σ H := h main
end Cm

namespace Cm
open PySem PySem.Spec PyProof.Rows L2

/-! ### a caught exception that is kept as a value -/
def ExV (cls : Value) (d : Option Addr) (a : Addr) : HO := .ext fun h => ∃ (oe : Obj) (vs : Array Value), h.get? a = some oe ∧ Zc cls d oe ∧ oe.data = .fields vs
theorem exV_ok {P : Program} {w : World} {H : Hp} {h : Heap} {a : Addr} {cls : Value} {d : Option Addr} {oe : Obj} {vs : Array Value} (he : h.get? a = some oe) (hz : Zc cls d oe) (hd : oe.data = .fields vs) : ObjOk P w H h a (ExV cls d a) :=
  ⟨⟨oe, vs, he, hz, hd⟩, ⟨oe, he⟩, fun h1 h2 ⟨o1, v1, g1, g2, g3⟩ k => ⟨o1, v1, k _ g1, g2, g3⟩⟩
theorem exV_at {P : Program} {w : World} {H : Hp} {h : Heap} {a : Addr} {cls : Value} {d : Option Addr} (hok : HOk P w H h) (e : H a = some (ExV cls d a)) : ∃ (oe : Obj) (vs : Array Value), h.get? a = some oe ∧ Zc cls d oe ∧ oe.data = .fields vs :=
  (hok a _ e).1
section
variable {X : Cx} {pins : List (Addr × Obj)} {σ : L2.St} {H : Hp} {s : Shared}
/-- an object of this def's own time is taken into sight -/
theorem track {a : Addr} {cls : Value} {d : Option Addr} {oe : Obj} {vs : Array Value} (I : Inv X pins σ H s) (he : s.heap.get? a = some oe) (hz : Zc cls d oe) (hd : oe.data = .fields vs) (na : H a = none) (n0 : X.s_0.heap.get? a = none)
    (nL : a ≠ X.env.locals) (np : ∀ p ∈ X.pn ++ pins, p.1 ≠ a) : Inv X pins σ (upd H a (ExV cls d a)) s := by
  have ne : ∀ {b : Addr} {o : HO}, H b = some o → b ≠ a := fun q => ne_of_none q na
  have nb : ∀ b o, X.s_0.heap.get? b = some o → b ≠ a := fun b o q z => by rw [z, n0] at q; cases q
  refine { I with base := ?_, free := ?_, freeC := ?_, pin := ?_, hok := ?_ }
  · have B := I.base
    refine ⟨B.keep, B.slot, fun b o q n x => ?_, B.there, fun b xs q => ?_, fun b o u q => ?_, fun b ps q => ?_⟩
    · rw [upd_ne (nb b o q)]; exact B.free b o q n x
    · have z := B.tups b xs q; rw [upd_ne (ne z)]; exact z
    · have z := B.frzs b o u q; rw [upd_ne (ne z)]; exact z
    · obtain ⟨m, z⟩ := B.tbls b ps q; exact ⟨m, by rw [upd_ne (ne z)]; exact z⟩
  · rw [upd_ne nL.symm]; exact I.free
  · intro x c q
    have nc : c ≠ a := fun z => by
      obtain ⟨v, oc, g1, g2⟩ := I.cell x c q
      rw [z, he] at g1
      cases g1
      rw [hd] at g2
      cases g2
    rw [upd_ne nc]; exact I.freeC x c q
  · intro p hp
    obtain ⟨g1, g2, g3⟩ := I.pin p hp
    exact ⟨g1, by rw [upd_ne (np p hp)]; exact g2, g3⟩
  · intro b u q
    by_cases hb : b = a
    · rw [hb] at q ⊢
      rw [upd_same] at q
      cases q
      exact exV_ok he hz hd
    · rw [upd_ne hb] at q
      exact (I.hok b u q).stay (fun _ _ _ z => z) (fun c z => by rw [upd_ne (ne z)]; exact z) fun c xs z => by rw [upd_ne (ne z)]; exact z
end
/-- what «except x as n: suite» wishes, the exception kept behind it -/
def wKept (K : PySem.W.Frag) (c : Value) (i : Nat) (ts : Addr → Value → Option Addr → TS) (Wout : WX) (D : Ends) : WX := fun cls d σ H =>
  ∃ b, PySem.W.exmOne K cls c = some b ∧
    (b = true → ∀ a, H a = none → ts a cls d ⟨fun σ' H' => D.nx (σ'.set i none) (upd H' a (ExV cls d a)), fun _ _ => False, fun _ _ => False, fun _ _ => False⟩ (σ.set i (some (.ref a))) H) ∧ (b = false → Wout cls d σ H)
section
variable {X : Cx} {x n : Str} {c : Value} {i : Nat} {body suite : List Stmt} {b0 : Stmt} {np pos pos' : Pos} {tb : WX → TS} {ts : Addr → Value → Option Addr → TS} {Wout : WX}
theorem ps_try_kept (hst : X.stack = X.env :: X.outer) (hfm : X.env.frame = some X.env.locals) (hex : X.ex = []) (hN : X.N.Nodup) (hi : X.N[i]? = some n) (hln : X.env.kindOf n = some .local) (hc : Names X x c) (tk : Takes X Wout)
    (hb : ∀ (W : WX) (pn : List (Addr × Obj)) (xe : Value → Shared → Prop), Takes (X.tr pn xe) W → PassesOwn (model X.prog X.w) X.A X.env xe → PSs (X.tr pn xe) body (tb W))
    (hsu : ∀ (a : Addr) (oe : Obj) (cls : Value) (d : Option Addr) (pn : List (Addr × Obj)), Zc cls d oe → (∃ vs, oe.data = .fields vs) → PSs (X.suite a ((a, oe) :: pn)) (b0 :: suite) (ts a cls d)) :
    PS X (.Try body [.ExceptHandler (some (.Name x np)) (some n) (b0 :: suite) pos'] [] [] pos) (fun D σ H => tb (wKept X.K c i ts Wout D) D σ H) := by
  constructor
  intro pins s σ H D I h
  have ok := I.ok
  have frm : X.A.frames = some (X.env :: X.outer) := by rw [← hst]; exact ok.frames
  refine wpAny_Try_except (wpAny_mono ((hb (wKept X.K c i ts Wout D) (X.pn ++ pins) _ (fun u s1 air => ?caught) PassesOwn.looking).run [] s σ H D (I.toTry _) h) (fun f s1 q => ?through) (fun e s1 q => q))
  case through =>
    cases f with
    | next => obtain ⟨σ1, H1, J, q⟩ := q; exact wpAny_execs_nil ⟨σ1, H1, J.ofTry ok, q⟩
    | brk => obtain ⟨σ1, H1, J, q⟩ := q; exact ⟨σ1, H1, J.ofTry ok, q⟩
    | cont => obtain ⟨σ1, H1, J, q⟩ := q; exact ⟨σ1, H1, J.ofTry ok, q⟩
    | ret u => obtain ⟨v, σ1, H1, J, r, q⟩ := q; exact ⟨v, σ1, H1, J.ofTry ok, r, q⟩
  case caught =>
    obtain ⟨a, B, sI, pins1, σ1, H1, cls, d, rfl, J0, ground, up, sky, na, os, bare, b, hcls, yes, no⟩ := air
    have J : Inv X pins σ1 H1 sI := J0.ofTry ok
    rw [show (X.tr (X.pn ++ pins) _).stack = X.stack from rfl, hst] at sky
    have Ba : B.get? a = none := by
      rcases sky with z | z | z
      · exact z.2.1
      · exact z.2.1
      · exact z.2.1
    show wpAny (model X.prog X.w) X.A (noteFrame (.ref a) X.env) _ _ _
    refine Sky.land Zc.steady frm hfm sky fun h2 fly up2 => ?_
    obtain ⟨o2, v2, g2, z2, d2⟩ := fly.there
    have J2 : Inv X pins σ1 H1 { s1 with heap := h2 } := J.landed ground fly.1 (up.trans up2) os bare
    have out : a ∉ frs (X.env :: X.outer) := fun hm => by
      obtain ⟨_, o', e', hnf⟩ := fly.2.2.1.mem hm
      rw [g2] at e'
      cases e'
      exact hnf _ d2
    have nL : a ≠ X.env.locals := fun z => out (List.mem_filterMap.mpr ⟨X.env, List.mem_cons_self, by rw [hfm, z]⟩)
    have nF : a ∉ X.fs := fun hm => by
      obtain ⟨e, he, q⟩ := List.mem_filterMap.mp hm
      exact out (List.mem_filterMap.mpr ⟨e, List.mem_cons_of_mem _ he, q⟩)
    have sIa : sI.heap.get? a = none := by
      cases q : sI.heap.get? a with
      | none => rfl
      | some o =>
        have := ground a o q (by rw [show (X.tr (X.pn ++ pins) _).stack = X.stack from rfl, hst]; exact out)
        rw [Ba] at this; cases this
    have n0 : X.s_0.heap.get? a = none := by
      cases q : X.s_0.heap.get? a with
      | none => rfl
      | some o =>
        obtain ⟨o', q'⟩ := J.base.there a o q (by rw [hex]; simp)
        rw [sIa] at q'; cases q'
    have pinNe : ∀ p ∈ X.pn ++ pins, p.1 ≠ a := fun p hp z => by
      have := (J.pin p hp).1
      rw [z, sIa] at this; cases this
    refine wpAny_handleBy_cons (codeAny_handlers_test ?_) (fun q => by cases q)
    have T2 := J2.suite g2 d2 na nL nF
    have ty : PySem.W.Looks (model X.prog X.w) h2 (typeOf (.ref a)) cls := fun _ _ _ _ k q => wpAny_typeOf_ref (k _ _ g2) (by rw [z2.1]; exact q)
    have named : ∀ {Q : Value → Shared → Prop} {E : Value → Shared → Prop}, Q c { s1 with heap := h2 } → wpAny (model X.prog X.w) (X.A.mark (some (.ref a))) (eval (.Name x np) X.env) Q E { s1 with heap := h2 } := fun {Q E} q => by
      obtain ⟨gl, db, hm | ⟨hm, hv, hn⟩⟩ := hc
      · exact ld_glob (X := X.suite a ((a, o2) :: (X.pn ++ pins))) T2 gl hm q db
      · exact ld_blt (X := X.suite a ((a, o2) :: (X.pn ++ pins))) T2 gl hm hv q hn db
    refine named ((PySem.W.exm_one (M := model X.prog X.w) J2.kIn ty hcls).here ?_)
    cases b with
    | false =>
      show wpAny _ X.A (handleBy (.ref a) X.env []) _ _ _
      refine wpAny_handleBy_nil ?_
      obtain ⟨_, _, _, oe, vs, T, oT, ts', he, hz, hd, h1, hr⟩ := id fly
      unfold PySem.passOn
      refine wpAny_bind (wpAny_field he hd h1 ?_)
      rw [if_neg (show ¬ ((Value.ref T == Value.none) = true) by simp)]
      have on : wpAny (model X.prog X.w) X.A (setFlight (.ref a) X.env.frame) (fun _ s4 => wpAny (model X.prog X.w) X.A (throw (.ref a) : Sem Flow) (SP X pins D) X.xe s4) X.xe { s1 with heap := h2 } := by
        rw [hfm]
        refine HandSPX.setFlight_upZ fly fun h4 hh4 up4 => wpAny_throw (tk _ _ ⟨a, B, sI, pins, σ1, H1, cls, d, rfl, J, ground, (up.trans up2).trans up4, .inr (.inr (by rw [hst]; exact hh4)), na, os, bare, no rfl⟩)
      first
        | exact wpAny_bind (wpAny_pure (wpAny_bind on))
        | exact wpAny_bind on
    | true =>
      refine codeAny_handlers_suite_as (HandSPX.lands_againZ fly fun h3 fly3 up3 => ?_)
      obtain ⟨o3, v3, g3, z3, d3⟩ := fly3.there
      have J3 : Inv X pins σ1 H1 { s1 with heap := h3 } := J.landed ground fly3.1 ((up.trans up2).trans up3) os bare
      refine store_ok (X := X.suite a ((a, o3) :: (X.pn ++ pins))) (v := .ref a) (J3.suite g3 d3 na nL nF) hN hi (.inl hln) rfl (fun s4 S4 => ?_) (.inr hln)
      refine wpAny_mono ((hsu a o3 cls d (X.pn ++ pins) z3 ⟨_, d3⟩).run [] s4 _ H1 _ S4 (yes rfl a na)) (fun f s5 q => ?_) (fun _ _ z => z.elim)
      cases f with
      | brk => obtain ⟨_, _, _, q⟩ := q; exact q.elim
      | cont => obtain ⟨_, _, _, q⟩ := q; exact q.elim
      | ret u => obtain ⟨_, _, _, _, _, q⟩ := q; exact q.elim
      | next =>
        obtain ⟨σ5, H5, S5, q5⟩ := q
        have K5 : Inv X ((a, o3) :: pins) σ5 H5 s5 := ⟨ok, S5.os, S5.bare, S5.base, S5.loc, S5.cell, S5.free, S5.freeC, fun p hp => S5.pin p (by
          rw [List.append_nil]
          rcases List.mem_append.mp hp with hp | hp
          · exact List.mem_cons_of_mem _ (List.mem_append_left _ hp)
          · rcases List.mem_cons.mp hp with hp | hp
            · rw [hp]; exact List.mem_cons_self
            · exact List.mem_cons_of_mem _ (List.mem_append_right _ hp)), S5.hok, S5.len⟩
        refine gone_ok K5 hN hi hln fun s6 K6 => ?_
        obtain ⟨g6, na6, _⟩ := K6.pin (a, o3) (List.mem_append_right _ List.mem_cons_self)
        have K7 : Inv X pins (σ5.set i none) H5 s6 := { K6 with pin := fun p hp => K6.pin p (by
          rcases List.mem_append.mp hp with hp | hp
          · exact List.mem_append_left _ hp
          · exact List.mem_append_right _ (List.mem_cons_of_mem _ hp)) }
        exact ⟨_, _, track K7 g6 z3 d3 na6 n0 nL pinNe, q5⟩
end

/-! ### isinstance of a kept exception, of None and of the other values -/
/-- what an exception class of the program must say, so that its instances are asked rightly -/
structure ExK (K : PySem.W.Frag) (D : Addr) : Prop where
  hg : PySem.W.findIn K (.ref D) "__getattribute__" = some (some (.builtin "BaseException.__getattribute__"))
  hk : PySem.W.findIn K (.ref D) "__getattr__" = some none
  hs : PySem.W.subIn K (.ref D) (.type "BaseException") = some true
  hd : PySem.W.hasDictIn K D = true
  ha : PySem.W.findIn K (.ref D) "__class__" = some (some (.builtin "object.__class__"))
  hn : PySem.W.specialIn K (.builtin "object.__class__") "__get__" = some (some (.builtin "getset_descriptor.__get__"))
  ht : PySem.W.takesIn K (.builtin "object.__class__") = some true
  hm : PySem.W.mroIn K D (.type "object") = some true
def exkB (K : PySem.W.Frag) (D : Addr) : Bool :=
  (PySem.W.findIn K (.ref D) "__getattribute__" == some (some (.builtin "BaseException.__getattribute__"))) && ((PySem.W.findIn K (.ref D) "__getattr__" == some none) && ((PySem.W.subIn K (.ref D) (.type "BaseException") == some true) && (PySem.W.hasDictIn K D &&
  ((PySem.W.findIn K (.ref D) "__class__" == some (some (.builtin "object.__class__"))) && ((PySem.W.specialIn K (.builtin "object.__class__") "__get__" == some (some (.builtin "getset_descriptor.__get__"))) && ((PySem.W.takesIn K (.builtin "object.__class__") == some true) && (PySem.W.mroIn K D (.type "object") == some true)))))))
theorem exkB_ok {K : PySem.W.Frag} {D : Addr} (h : exkB K D = true) : ExK K D := by
  unfold exkB at h
  simp only [Bool.and_eq_true, beq_iff_eq] at h
  obtain ⟨h1, h2, h3, h4, h5, h6, h7, h8⟩ := h
  exact ⟨h1, h2, h3, h4, h5, h6, h7, h8⟩
theorem ExK.xf {K : PySem.W.Frag} {D : Addr} (h : ExK K D) : XfC K D := ⟨h.hg, h.hk, h.hs, h.hd⟩
/-- what is known of a kept exception at a: its class D, its dict's state -/
def KeptAt (H : Hp) (a D : Addr) : Prop := ∃ d : Option Addr, H a = some (ExV (.ref D) d a) ∧ (d = none ∨ ∃ dd fs, d = some dd ∧ H dd = some (.xd fs))
def rIsX (K : PySem.W.Frag) : List V → Hp → VK → Prop := fun xs H Q => ∃ (a D : Addr) (c : V) (cv : Value) (b : Bool), xs = [.ref a, c] ∧ KeptAt H a D ∧ ExK K D ∧ ClsV c cv ∧ PySem.W.kitOne K (.ref D) cv = some b ∧ Q (.bl b) H
def rIsXT (K : PySem.W.Frag) : List V → Hp → VK → Prop := fun xs H Q => ∃ (a D tp : Addr) (cs : List V) (us : List Value) (b : Bool), xs = [.ref a, .ref tp] ∧ KeptAt H a D ∧ ExK K D ∧ H tp = some (.tup cs) ∧ Paired ClsV cs us ∧ PySem.W.kitAny K (.ref D) us = some b ∧ Q (.bl b) H
section
variable {X : Cx} {pins : List (Addr × Obj)} {σ : L2.St} {H : Hp} {s : Shared}
theorem kept_inst {a D : Addr} (I : Inv X pins σ H s) (k : KeptAt H a D) : ∃ ox od, PySem.W.InstAt s.heap a ox D od := by
  obtain ⟨d, e, dd⟩ := k
  obtain ⟨oe, vs, g, z, hd⟩ := exV_at I.hok e
  obtain ⟨oc, od, oda, osl⟩ := oe
  obtain ⟨h1, h2⟩ := z
  dsimp only at h1 h2 hd
  subst h1 h2 hd
  rcases dd with rfl | ⟨dx, fs, rfl, hx⟩
  · exact ⟨_, none, g, rfl, rfl, trivial⟩
  · obtain ⟨mA, ⟨o, es, ep, g2, _⟩, _⟩ := (show ObjOk X.prog X.w H s.heap dx (.xd fs) from I.hok dx _ hx)
    exact ⟨_, some o, g, rfl, rfl, g2⟩
theorem kit_exc {K : PySem.W.Frag} {a D : Addr} {ox : Obj} {od : Option Obj} (C : ExK K D) : PySem.W.KitX K (.ref a) (.ref D) (fun h => PySem.W.InstAt h a ox D od) := by
  have hcl : (PySem.W.clsIn K D).isSome = true := by
    obtain ⟨cd, hc, _⟩ := PySem.W.any_some C.hd
    rw [hc]; rfl
  exact PySem.W.kitx_exc hcl C.hg C.hk C.hs C.ha C.hn C.ht C.hm
theorem call_isX : CallR X (.builtin "isinstance") (rIsX X.K) := by
  intro pins s σ H xs us Q I r h
  obtain ⟨a, D, c, cv, b, rfl, k, C, kc, e, q⟩ := h
  obtain ⟨u1, u2, rfl, r1, r2⟩ := vals2 r
  have e2 := kc.eq r2
  subst e2
  cases (show u1 = Value.ref a from r1)
  obtain ⟨ox, od, J⟩ := kept_inst I k
  exact PySem.W.kia_one (kit_exc C) I.kIn J e (fun z => nomatch z) fun tk => ⟨.bl b, H, I.tok tk, rfl, q⟩
theorem call_isXT : CallR X (.builtin "isinstance") (rIsXT X.K) := by
  intro pins s σ H xs us Q I r h
  obtain ⟨a, D, tp, cs, ws, b, rfl, k, C, hT, kc, e, q⟩ := h
  obtain ⟨u1, u2, rfl, r1, r2⟩ := vals2 r
  cases (show u1 = Value.ref a from r1)
  cases (show u2 = Value.ref tp from r2)
  obtain ⟨ox, od, J⟩ := kept_inst I k
  obtain ⟨_, its, rv, o, h1, h2, n, h3⟩ := (show ObjOk X.prog X.w H s.heap tp (.tup cs) from I.hok tp _ hT)
  have e3 := ClsV.all kc rv
  subst e3
  obtain ⟨oc, od', dt, sl⟩ := o
  simp only at h2 h3
  subst h2 h3
  exact PySem.W.kia_tup (kit_exc C) I.kIn J h1 e (fun z => nomatch z) fun tk => ⟨.bl b, H, I.tok tk, rfl, q⟩
/-- isinstance of anything, one class or a tuple of them -/
def rIsA (K : PySem.W.Frag) : List V → Hp → VK → Prop := fun xs H Q => rIsi K xs H Q ∨ rIsiT K xs H Q ∨ rIsX K xs H Q ∨ rIsXT K xs H Q
theorem q_isA : CallR X (.builtin "isinstance") (rIsA X.K) := by
  intro pins s σ H xs us Q I r h
  rcases h with h | h | h | h
  · exact call_isi pins s σ H xs us Q I r h
  · exact call_isiT pins s σ H xs us Q I r h
  · exact call_isX pins s σ H xs us Q I r h
  · exact call_isXT pins s σ H xs us Q I r h
end

/-! ### a kept exception's field -/
def tXat (K : PySem.W.Frag) (n : Str) (te : TE) : TE := fun σ H Q => te σ H fun x H1 => ∃ (a C dd : Addr) (fs : List (Str × V)) (v : V), x = .ref a ∧ H1 a = some (ExV (.ref C) (some dd) a) ∧ XfC K C ∧ PySem.W.findIn K (.ref C) n = some none ∧ H1 dd = some (.xd fs) ∧ fs.lookup n = some v ∧ Q v H1
theorem pe_xat {X : Cx} {e : Expr} {te : TE} {pos : Pos} {n : Str} (he : PE X e te) (hb : attributeBase e n X.env (eval e X.env) = eval e X.env := by rfl) : PE X (.Attribute e n pos) (tXat X.K n te) := by
  constructor
  intro pins s σ H Q I h
  refine attr_of hb (thn (he.run pins s σ H _ I h) fun u s1 hh => ?_)
  obtain ⟨x, H1, I1, rx, a, C, dd, fs, v, rfl, ea, T, hno, ed, l, q⟩ := hh
  cases (show u = Value.ref a from rx)
  obtain ⟨oe, vs, g, z, hd⟩ := exV_at I1.hok ea
  obtain ⟨mA, hns, hr⟩ := (show ObjOk X.prog X.w H1 s1.heap dd (.xd fs) from I1.hok dd _ ed)
  obtain ⟨od, ho, hl⟩ := lookIn_ns hns
  obtain ⟨u, hu, ru⟩ := RelO.some_of (v := v) (o := mA n) (by rw [← l]; exact hr n)
  have J : PySem.W.InstAt s1.heap a oe C (some od) := ⟨g, z.1, by unfold PySem.W.notCls; rw [hd] <;> rfl, by rw [z.2]; exact ho⟩
  exact HandSPX.exc_get I1.kIn J T.ga T.gg T.exC (PySem.W.findObj_own T.hdC hno rfl (by rw [hl, hu])) (handed_of ru) ⟨v, H1, I1.tok _, ru, q⟩

/-! ### Base.__init__(self, ..) in an own exception's __init__, Base an own class without an __init__ -/
structure BaseI (K : PySem.W.Frag) (mg : Str → Option Value) (B : Addr) (x : Str) : Prop where
  gB : mg x = some (.ref B)
  rd : PySem.W.readsIn K B (.type "type") = true
  ga : PySem.W.specialIn K (.ref B) "__getattribute__" = some (some (.builtin "type.__getattribute__"))
  at_ : PySem.W.findCls K (.ref B) (.type "type") "__init__" = some (.val (.builtin "ValueError.__init__"))
theorem pe_binit {X : Cx} {x : Str} {B : Addr} {e : Expr} {es : List Expr} {ta : TA} {p1 p2 pos : Pos} {pl : Sem Bool} (T : BaseI X.K X.mg B x) (hg : Gl X x) (ha : PA X (e :: es) ta) (hdb : (x == ("__debug__" : Str)) = false := by decide)
    (hc : eval (.Call (.Attribute (.Name x p1) "__init__" p2) (e :: es) [] pos) X.env = (do
      let ov ← eval (.Name x p1) X.env
      standAt p2.atName
      let (f, first) ← holding [ov] (getMethod ov "__init__" pl)
      callWith pos f first (backTo pos (starEach (e :: es) X.env)) (backToKw pos (keywordEach [] X.env))) := by rfl)
    (he : starEach (e :: es) X.env = (false, eval e X.env) :: starEach es X.env := by rfl) (hpl : (backTo pos (starEach es X.env)).any (·.1) = false := by rfl) :
    PE X (.Call (.Attribute (.Name x p1) "__init__" p2) (e :: es) [] pos) (tVeI X.K ta) := by
  constructor
  intro pins s σ H Q I h
  refine PySem.W.methodCall_KW (ld_glob I hg T.gB ?_ hdb) hc
  refine PySem.W.method_cls I.kIn T.ga (PySem.W.cls_value I.kIn T.rd T.at_ (by decide +kernel) ?_)
  show wpAny _ _ (callWith pos (Value.builtin "ValueError.__init__") [] (backTo pos (starEach (e :: es) X.env)) []) _ _ _
  refine PyProof.Rows.callWith_method1 (thn (ha.run pos pins _ σ H _ (I.tok _) h) fun us s1 hh => ?_) he hpl
  obtain ⟨vs, H1, I1, r1, a, C, ws, rfl, hl, O, ea, q⟩ := hh
  cases r1 with
  | @cons _ u0 _ ur ra rr =>
    cases (show u0 = Value.ref a from ra)
    have len : ur.length ≤ sizeLine := by
      have := Paired.length rr
      rw [sizeLine_eq]
      omega
    exact oinit_ok O I1 ea len fun s' J => ⟨.non, H1, J, rfl, q⟩

/-! ### readings of raise, of an exception's own __init__ and of try, step by step -/
/-- raise C('..'), C without an __init__ -/
def tRaiseP (C : Addr) (E : XK) : TS := fun _ _ H => E (.ref C) none H
/-- raise C(e), C with an __init__ that keeps sp -/
def tRaiseO (C : Addr) (sp : Sp) (ta : TA) (E : XK) : TS := fun _ σ H => tMkO C sp [] ta σ H fun cls d H' => E cls d H'
/-- the promise of such an __init__(self, f): the field f is stored -/
def prInit (C : Addr) (f : Str) (v0 v1 : V) (H : Hp) (Q : VK) : Prop := ∃ a, v0 = .ref a ∧ H a = some (exo a C none) ∧ ∀ dx, H dx = none → dx ≠ a → Q .non (upd (upd H dx (exd dx [(f, v1)])) a (exo a C (some dx)))
def spInit (C : Addr) (f : Str) : Sp := fun vs H Q _ => ∃ v0 v1, vs = [v0, v1] ∧ prInit C f v0 v1 H Q
/-- try: .. except c as n: m = n (n in slot i, m in slot j) -/
def tTryK (K : PySem.W.Frag) (c : Value) (i j : Nat) (tb : WX → TS) : TS := fun D σ H => tb (wKept K c i (fun _ _ _ => tAsg (tVar i) (gName j)) (fun _ _ _ _ => False) D) D σ H
section
variable {K : PySem.W.Frag} {σ : L2.St} {H : Hp} {D : Ends} {E : XK} {C : Addr} {f : Str}
theorem k_raiseP (h : E (.ref C) none H) : tRaiseP C E D σ H := h
theorem heap_made {H : Hp} {a d : Addr} {o1 o2 o3 o4 : HO} (na : H a = none) (ne : d ≠ a) : upd (L2.del (upd (upd (upd H a o1) d o2) a o3) a) d o4 = upd H d o4 := by
  funext b
  by_cases h1 : b = d
  · rw [h1, upd_same, upd_same]
  · rw [upd_ne h1, upd_ne h1]
    by_cases h2 : b = a
    · rw [h2, L2.del_same, na]
    · rw [L2.del_ne h2, upd_ne h2, upd_ne h1, upd_ne h2]
theorem exo_ne_exd {a d C : Addr} {fs : List (Str × V)} : True := trivial
theorem k_raiseO {ta : TA} {v : V} (hta : ∀ (R : List V → Hp → Prop), R [v] H → ta σ H R) (h : ∀ d, H d = none → E (.ref C) (some d) (upd H d (.xd [(f, v)]))) : tRaiseO C (spInit C f) ta E D σ H := by
  refine hta _ ⟨(by show 1 ≤ 1000; decide), fun a na => ?_⟩
  refine ⟨.ref a, v, rfl, a, rfl, upd_same, fun dx ndx ne => ⟨rfl, dx, [(f, v)], upd_same, ?_, ?_, ?_⟩⟩
  · rw [upd_ne ne, upd_same]
  · rw [upd_ne ne] at ndx; exact ndx
  · rw [heap_made na ne]
    rw [upd_ne ne] at ndx
    exact h dx ndx
theorem k_try {i j : Nat} {tb : WX → TS} (h : tb (wKept K (.ref C) i (fun _ _ _ => tAsg (tVar i) (gName j)) (fun _ _ _ _ => False) D) D σ H) : tTryK K (.ref C) i j tb D σ H := h
theorem k_callS {sp : Sp} {W : WX} {tr : TA} {Q : VK} (h : tr σ H fun vs H1 => sp vs H1 Q (WE W σ)) : tCallS sp (WE W) tr σ H Q := h
/-- the exception is one of the clause's -/
theorem k_caught {c : Value} {i j : Nat} {cls : Value} {d : Option Addr} {nx : L2.St → Hp → Prop} {rt : VK} {bk ct : L2.St → Hp → Prop} (hi : i < σ.length) (hc : PySem.W.exmOne K cls c = some true)
    (h : ∀ a, H a = none → nx (((σ.set i (some (.ref a))).set j (some (.ref a))).set i none) (upd H a (ExV cls d a))) : wKept K c i (fun _ _ _ => tAsg (tVar i) (gName j)) (fun _ _ _ _ => False) ⟨nx, rt, bk, ct⟩ cls d σ H :=
  ⟨true, hc, fun _ a na => ⟨.ref a, by rw [List.getElem?_set_self hi], h a na⟩, fun z => Bool.noConfusion z⟩
theorem k_isXone {xs : List V} {Q : VK} {a D : Addr} {c : V} {cv : Value} {b : Bool} (k : KeptAt H a D) (e : ExK K D) (kc : ClsV c cv) (h1 : PySem.W.kitOne K (.ref D) cv = some b) (h : Q (.bl b) H) : rIsA K [.ref a, c] H Q := .inr (.inr (.inl ⟨a, D, c, cv, b, rfl, k, e, kc, h1, h⟩))
theorem k_isXtup {Q : VK} {a D tp : Addr} {cs : List V} {us : List Value} {b : Bool} (k : KeptAt H a D) (e : ExK K D) (hT : H tp = some (.tup cs)) (kc : Paired ClsV cs us) (h1 : PySem.W.kitAny K (.ref D) us = some b) (h : Q (.bl b) H) : rIsA K [.ref a, .ref tp] H Q := .inr (.inr (.inr ⟨a, D, tp, cs, us, b, rfl, k, e, hT, kc, h1, h⟩))
theorem k_isNone {Q : VK} {c : V} {cv : Value} {b : Bool} (kc : ClsV c cv) (h1 : PySem.W.kitOne K (.type "NoneType") cv = some b) (h : Q (.bl b) H) : rIsA K [.non, c] H Q := .inl ⟨_, _, _, _, b, rfl, kc, .base .non, h1, h⟩
theorem k_isOne {Q : VK} {xs : List V} (h : rIsi K xs H Q) : rIsA K xs H Q := .inl h
theorem k_xat {n : Str} {te : TE} {Q : VK} (h : te σ H fun x H1 => ∃ (a C dd : Addr) (fs : List (Str × V)) (v : V), x = .ref a ∧ H1 a = some (ExV (.ref C) (some dd) a) ∧ XfC K C ∧ PySem.W.findIn K (.ref C) n = some none ∧ H1 dd = some (.xd fs) ∧ fs.lookup n = some v ∧ Q v H1) : tXat K n te σ H Q := h
theorem exV_kept {a : Addr} {D : Addr} {d : Option Addr} {H : Hp} (h : H a = some (ExV (.ref D) d a)) (hd : d = none ∨ ∃ dd fs, d = some dd ∧ H dd = some (.xd fs)) : KeptAt H a D := ⟨d, h, hd⟩
end
section
variable {K : PySem.W.Frag} {σ : L2.St} {H : Hp} {D : Ends} {E : XK} {C : Addr} {f : Str} {Q : VK} {te : TE} {tr : TA}
instance {i j : Nat} {tb : WX → TS} : Stp (tTryK K (.ref C) i j tb D σ H) (tb (wKept K (.ref C) i (fun _ _ _ => tAsg (tVar i) (gName j)) (fun _ _ _ _ => False) D) D σ H) := ⟨k_try⟩
instance {sp : Sp} {W : WX} : Stp (tCallS sp (WE W) tr σ H Q) (tr σ H fun vs H1 => sp vs H1 Q (WE W σ)) := ⟨k_callS⟩
instance {n : Str} : Stp (tXat K n te σ H Q) (te σ H fun x H1 => ∃ (a C dd : Addr) (fs : List (Str × V)) (v : V), x = .ref a ∧ H1 a = some (ExV (.ref C) (some dd) a) ∧ XfC K C ∧ PySem.W.findIn K (.ref C) n = some none ∧ H1 dd = some (.xd fs) ∧ fs.lookup n = some v ∧ Q v H1) := ⟨k_xat⟩
instance : Stp (tRaiseP C E D σ H) (E (.ref C) none H) := ⟨k_raiseP⟩
/-- what follows a caught exception is shown once -/
theorem tryjoin {i j : Nat} {tb : WX → TS} (G : Value → Option Addr → L2.St → Hp → Prop) (rest : ∀ cls d σ' H', G cls d σ' H' → wKept K (.ref C) i (fun _ _ _ => tAsg (tVar i) (gName j)) (fun _ _ _ _ => False) D cls d σ' H')
    (h : (∀ cls d σ' H', G cls d σ' H' → wKept K (.ref C) i (fun _ _ _ => tAsg (tVar i) (gName j)) (fun _ _ _ _ => False) D cls d σ' H') → tTryK K (.ref C) i j tb D σ H) : tTryK K (.ref C) i j tb D σ H := h rest
end
section
variable {P : Program} {w : World} {K : PySem.W.Frag} {mg : Str → Option Value} {base : Heap}
/-- such an __init__ keeps its promise; msg, f: its texts -/
theorem init_reads {C B : Addr} {f : Str} {msg : V} {v0 v1 : V} {H : Hp} {Q : VK} (O : OexC K C) (hno : PySem.W.findIn K (.ref C) f = some none) (h : prInit C f v0 v1 H Q) :
    tSeq (tDrop (tVeI K (tCons (tVar 0) (tCons (tC msg) tNil)))) (tOst K f (tVar 0) (tVar 1)) { nx := fun _ H' => Q .non H', rt := Q } [some v0, some v1] H := by
  obtain ⟨a, rfl, ea, q⟩ := h
  refine ⟨_, rfl, a, C, [msg], rfl, (by show 1 ≤ 1000; decide), O, ea, ?_⟩
  exact ⟨_, rfl, _, rfl, a, C, rfl, O, hno, .inl ⟨ea, fun dx nd ne => q dx nd ne⟩⟩
end
end Cm

namespace Pf
open PySem PySem.Spec PyProof.Rows L2 Cm
local macro_rules | `(tactic| wtm_at "smh") => `(tactic| with_reducible first
  | assumption
  | (refine Same.trans ?_ (by assumption); wtm_at "smx")
  | (refine Same.trans ?_ (hid_mono (by assumption)); wtm_at "smx"))
local macro_rules | `(tactic| wtm_at "smx") => `(tactic| with_reducible first
  | exact Same.refl _
  | assumption
  | exact hid_same _ _
  | (refine Same.trans ?_ (by assumption); wtm_at "smx")
  | (refine Same.trans ?_ (hid_mono (by assumption)); wtm_at "smx")
  | (apply hid_back; wtm_at "smh"))
local macro_rules | `(tactic| wtm_at "sm") => `(tactic| wtm_at "smx")
local macro_rules | `(tactic| wtm_at "at") => `(tactic| with_reducible first
  | assumption
  | exact upd_same
  | (refine at_same (by assumption) ?_; wtm_at "smx"))
local macro_rules | `(tactic| wtm_at "le") => `(tactic| with_reducible first
  | assumption
  | (refine Le.same (by assumption) ?_; wtm_at "smx"))
local macro_rules | `(tactic| wtm_at "dp") => `(tactic| with_reducible first
  | assumption
  | exact .int _
  | exact .str _
  | exact .bl _
  | (refine dp_same ?_ (by assumption); wtm_at "smx")
  | (refine dpa_same ?_ (by assumption); wtm_at "smx")
  | (refine dpI_at (by assumption) ?_; wtm_at "smx")
  | (refine dpP_at (by assumption) ?_; wtm_at "smx"))
local macro_rules | `(tactic| wtm_at "sq") => `(tactic| with_reducible first
  | assumption
  | exact sl (by assumption)
  | exact stp (by assumption)
  | (refine sl_at (by assumption) ?_; wtm_at "smx")
  | (refine st_at (by assumption) ?_; wtm_at "smx")
  | (refine Same.seq ?_ (by assumption); wtm_at "smx")
  | (refine same_seqT ?_ (by assumption); wtm_at "smx")
  | ((show SqL _ (upd _ _ _) _ _); exact sl upd_same)
  | ((show SqT _ (upd _ _ _) _ _); exact stp upd_same))
local macro_rules | `(tactic| wtm_at "cI") => `(tactic| first
  | (refine Or.inl ⟨?_, ?_⟩ <;> omega)
  | (refine Or.inr ⟨?_, ?_⟩ <;> omega)
  | (refine ⟨?_, ?_⟩ <;> omega)
  | decide)
local macro_rules | `(tactic| wtm_at "pf") => `(tactic| first | omega | decide)
local macro_rules | `(tactic| wtm_at "s2") => `(tactic| with_reducible first
  | ((show ite _ _ _); first
    | refine k_itDT (by with_unfolding_all wtm_at "pf") ?_
    | refine k_itDF (by with_unfolding_all wtm_at "pf") ?_
    | refine k_itNT (by with_unfolding_all wtm_at "pf") ?_
    | refine k_itNF (by with_unfolding_all wtm_at "pf") ?_)
  | ((show rLen _ _ _ _); first
    | refine k_len0 (by assumption) ?_
    | refine k_lenI (by wtm_at "sq") ?_
    | refine k_len (by wtm_at "sq") ?_)
  | ((show gTup _ _ _ _ _ _ _); refine k_gtup (by wtm_at "sq") (by with_unfolding_all rfl) ?_)
  | ((show rIxT _ (V.ref _) (V.int _) _ _); refine k_ixT (by wtm_at "sq") (by with_unfolding_all rfl) ?_)
  | ((show wipe _ _ = wipe _ _ ∧ _); refine k_wipe (by with_unfolding_all rfl) ?_)
  | ((show rIn _ _ _ _ _ _); first
    | refine k_inI (by wtm_at "sq") ?_
    | refine k_notInI (by wtm_at "sq") ?_)
  | ((show rIsi _ _ _ _); refine k_isiL (by wtm_at "sq") ?_)
  | ((show xMod _ _ _ _); refine k_mod (by with_unfolding_all first | decide | omega) ?_)
  | ((show xMul _ _ _ _); refine k_mul (by with_unfolding_all wtm_at "cI") ?_)
  | ((show xDiv _ _ _ _); refine k_div (by with_unfolding_all wtm_at "cI") ?_)
  | ((show xPow _ _ _ _); refine k_pow (by with_unfolding_all exact ⟨by decide, by decide, by decide⟩) ?_)
  | ((show rMinT _ _ _ _); refine k_minT (by wtm_at "sq") ?_)
  | ((show rMaxT _ _ _ _); refine k_maxT (by wtm_at "sq") ?_)
  | ((show ∃ j' : Int, [V.int _] = [.int j'] ∧ _); refine k_rj1 (by with_unfolding_all omega) (by with_unfolding_all omega) ?_)
  | ((show ∃ i' j' : Int, [V.int _, V.int _] = [.int i', .int j'] ∧ _); refine k_rj2 (by with_unfolding_all omega) ?_))
local macro_rules | `(tactic| wtm_at "s1") => `(tactic| first
  | refine go ?_
  | wtm_at "s2")
local macro_rules | `(tactic| wtm_at "s") => `(tactic| repeat wtm_at "s1")
def topS (i : Nat) : Stmt := PySem.Challenge.pw_tiehues_k11_lines_refused.main.body.getD i (.Pass ⟨0, 0, 0, 0⟩)
abbrev s_is_tree : Stmt := topS 10
theorem sc_is_tree : FnScope ["parents", "k"] ["parents"] (defScope s_is_tree) := ⟨rfl, rfl, rfl, by decide +kernel, rfl, by decide +kernel, by decide +kernel⟩
abbrev s_look_net : Stmt := topS 11
theorem sc_look_net : FnScope ["net", "kind", "size", "right"] ["net"] (defScope s_look_net) := ⟨rfl, rfl, rfl, by decide +kernel, rfl, by decide +kernel, by decide +kernel⟩
abbrev s_must_be_kind : Stmt := topS 12
theorem sc_must_be_kind : FnScope ["net", "kind"] ["net", "kind"] (defScope s_must_be_kind) := ⟨rfl, rfl, rfl, by decide +kernel, rfl, by decide +kernel, by decide +kernel⟩
abbrev s_places_of : Stmt := topS 13
theorem sc_places_of : FnScope ["net"] ["net"] (defScope s_places_of) := ⟨rfl, rfl, rfl, by decide +kernel, rfl, by decide +kernel, by decide +kernel⟩
abbrev s_is_way : Stmt := topS 15
theorem sc_is_way : FnScope ["net", "way", "a", "b"] ["net", "way"] (defScope s_is_way) := ⟨rfl, rfl, rfl, by decide +kernel, rfl, by decide +kernel, by decide +kernel⟩
abbrev s_must_be_ways : Stmt := topS 17
theorem sc_must_be_ways : FnScope ["net", "ways", "k"] ["net", "ways"] (defScope s_must_be_ways) := ⟨rfl, rfl, rfl, by decide +kernel, rfl, by decide +kernel, by decide +kernel⟩
abbrev s_line_hues : Stmt := topS 20
theorem sc_line_hues : FnScope ["net", "ways", "hues", "ahead", "k", "begin", "taken", "each", "j", "hue"] ["net", "ways"] (defScope s_line_hues) := ⟨rfl, rfl, rfl, by decide +kernel, rfl, by decide +kernel, by decide +kernel⟩
abbrev s_shows : Stmt := topS 26
theorem sc_shows : FnScope ["net", "ways", "lines", "lain", "k", "way"] ["net", "ways", "lines"] (defScope s_shows) := ⟨rfl, rfl, rfl, by decide +kernel, rfl, by decide +kernel, by decide +kernel⟩
abbrev s_law_mix : Stmt := topS 28
theorem sc_law_mix : FnScope ["_law_number", "_law_k", "_law_mixed"] ["_law_number", "_law_k"] (defScope s_law_mix) := ⟨rfl, rfl, rfl, by decide +kernel, rfl, by decide +kernel, by decide +kernel⟩
abbrev s_law_cell_at : Stmt := topS 29
theorem sc_law_cell_at : FnScope ["_law_script", "_law_k"] ["_law_script", "_law_k"] (defScope s_law_cell_at) := ⟨rfl, rfl, rfl, by decide +kernel, rfl, by decide +kernel, by decide +kernel⟩
abbrev s_law_left : Stmt := topS 30
theorem sc_law_left : FnScope ["_law_script", "_law_k", "_law_cell"] ["_law_script", "_law_k"] (defScope s_law_left) := ⟨rfl, rfl, rfl, by decide +kernel, rfl, by decide +kernel, by decide +kernel⟩
abbrev s_law_draw : Stmt := topS 31
theorem sc_law_draw : FnScope ["_law_left_here", "_law_base", "_law_mixed", "_law_digit"] ["_law_left_here", "_law_base"] (defScope s_law_draw) := ⟨rfl, rfl, rfl, by decide +kernel, rfl, by decide +kernel, by decide +kernel⟩
abbrev s_law_line : Stmt := topS 32
theorem sc_law_line : FnScope ["_law_left_here"] ["_law_left_here"] (defScope s_law_line) := ⟨rfl, rfl, rfl, by decide +kernel, rfl, by decide +kernel, by decide +kernel⟩
abbrev s_law_way : Stmt := topS 33
theorem sc_law_way : FnScope ["_law_left_here", "_law_many", "_law_a", "_law_b"] ["_law_left_here", "_law_many"] (defScope s_law_way) := ⟨rfl, rfl, rfl, by decide +kernel, rfl, by decide +kernel, by decide +kernel⟩
abbrev s_law_short_way : Stmt := topS 34
theorem sc_law_short_way : FnScope ["_law_left_here", "_law_many", "_law_a", "_law_b"] ["_law_left_here", "_law_many"] (defScope s_law_short_way) := ⟨rfl, rfl, rfl, by decide +kernel, rfl, by decide +kernel, by decide +kernel⟩
abbrev s_law_ways : Stmt := topS 35
theorem sc_law_ways : FnScope ["_law_left_here", "_law_many", "_law_ways_here", "_law_k"] ["_law_left_here", "_law_many"] (defScope s_law_ways) := ⟨rfl, rfl, rfl, by decide +kernel, rfl, by decide +kernel, by decide +kernel⟩
abbrev s_law_refused : Stmt := topS 38
theorem sc_law_refused : FnScope ["_law_net", "_law_ways_here", "_law_which", "_law_caught", "e"] ["_law_net", "_law_ways_here", "_law_which"] (defScope s_law_refused) := ⟨rfl, rfl, rfl, by decide +kernel, rfl, by decide +kernel, by decide +kernel⟩
abbrev s_law : Stmt := topS 39
theorem sc_law : FnScope ["_law_script", "_law_cell", "_law_left_here", "_law_net", "_law_ways_here", "_law_far", "_law_some", "_law_at", "_law_bad", "_law_other", "_law_handed", "_law_which", "_law_answer"] ["_law_script"] (defScope s_law) := ⟨rfl, rfl, rfl, by decide +kernel, rfl, by decide +kernel, by decide +kernel⟩
abbrev s_init_NoWay : Stmt := inClass (topS 4) 0
theorem sc_init_NoWay : FnScope ["self", "at"] ["self", "at"] (defScope s_init_NoWay) := ⟨rfl, rfl, rfl, by decide +kernel, rfl, by decide +kernel, by decide +kernel⟩
abbrev s_init_NoHues : Stmt := inClass (topS 6) 0
theorem sc_init_NoHues : FnScope ["self", "place"] ["self", "place"] (defScope s_init_NoHues) := ⟨rfl, rfl, rfl, by decide +kernel, rfl, by decide +kernel, by decide +kernel⟩
structure Ad where
  c_TieError : Addr
  c_NoNet : Addr
  c_OtherNet : Addr
  c_NoWay : Addr
  c_TooMany : Addr
  c_NoHues : Addr
  c_NoPlace : Addr
  i_NoWay : Addr
  di_NoWay : FuncData
  i_NoHues : Addr
  di_NoHues : FuncData
  a_is_tree : Addr
  d_is_tree : FuncData
  a_look_net : Addr
  d_look_net : FuncData
  a_must_be_kind : Addr
  d_must_be_kind : FuncData
  a_places_of : Addr
  d_places_of : FuncData
  a_is_way : Addr
  d_is_way : FuncData
  a_must_be_ways : Addr
  d_must_be_ways : FuncData
  a_line_hues : Addr
  d_line_hues : FuncData
  a_shows : Addr
  d_shows : FuncData
  a_law_mix : Addr
  d_law_mix : FuncData
  a_law_cell_at : Addr
  d_law_cell_at : FuncData
  a_law_left : Addr
  d_law_left : FuncData
  a_law_draw : Addr
  d_law_draw : FuncData
  a_law_line : Addr
  d_law_line : FuncData
  a_law_way : Addr
  d_law_way : FuncData
  a_law_short_way : Addr
  d_law_short_way : FuncData
  a_law_ways : Addr
  d_law_ways : FuncData
  a_law_refused : Addr
  d_law_refused : FuncData
  a_law : Addr
  d_law : FuncData
structure Txt (K : PySem.W.Frag) (mg : Str → Option Value) (A : Ad) : Prop where
  g_is_tree : mg "is_tree" = some (.ref A.a_is_tree)
  F_is_tree : Fun K "is_tree" "is_tree" s_is_tree A.a_is_tree A.d_is_tree
  b_is_tree : Binds K A.d_is_tree ["parents"] []
  g_look_net : mg "look_net" = some (.ref A.a_look_net)
  F_look_net : Fun K "look_net" "look_net" s_look_net A.a_look_net A.d_look_net
  b_look_net : Binds K A.d_look_net ["net"] []
  g_must_be_kind : mg "must_be_kind" = some (.ref A.a_must_be_kind)
  F_must_be_kind : Fun K "must_be_kind" "must_be_kind" s_must_be_kind A.a_must_be_kind A.d_must_be_kind
  b_must_be_kind : Binds K A.d_must_be_kind ["net", "kind"] []
  g_places_of : mg "places_of" = some (.ref A.a_places_of)
  F_places_of : Fun K "places_of" "places_of" s_places_of A.a_places_of A.d_places_of
  b_places_of : Binds K A.d_places_of ["net"] []
  g_is_way : mg "is_way" = some (.ref A.a_is_way)
  F_is_way : Fun K "is_way" "is_way" s_is_way A.a_is_way A.d_is_way
  b_is_way : Binds K A.d_is_way ["net", "way"] []
  g_must_be_ways : mg "must_be_ways" = some (.ref A.a_must_be_ways)
  F_must_be_ways : Fun K "must_be_ways" "must_be_ways" s_must_be_ways A.a_must_be_ways A.d_must_be_ways
  b_must_be_ways : Binds K A.d_must_be_ways ["net", "ways"] []
  g_line_hues : mg "line_hues" = some (.ref A.a_line_hues)
  F_line_hues : Fun K "line_hues" "line_hues" s_line_hues A.a_line_hues A.d_line_hues
  b_line_hues : Binds K A.d_line_hues ["net", "ways"] []
  g_shows : mg "shows" = some (.ref A.a_shows)
  F_shows : Fun K "shows" "shows" s_shows A.a_shows A.d_shows
  b_shows : Binds K A.d_shows ["net", "ways", "lines"] []
  g_law_mix : mg "_law_mix" = some (.ref A.a_law_mix)
  F_law_mix : Fun K "_law_mix" "_law_mix" s_law_mix A.a_law_mix A.d_law_mix
  b_law_mix : Binds K A.d_law_mix ["_law_number", "_law_k"] []
  g_law_cell_at : mg "_law_cell_at" = some (.ref A.a_law_cell_at)
  F_law_cell_at : Fun K "_law_cell_at" "_law_cell_at" s_law_cell_at A.a_law_cell_at A.d_law_cell_at
  b_law_cell_at : Binds K A.d_law_cell_at ["_law_script", "_law_k"] []
  g_law_left : mg "_law_left" = some (.ref A.a_law_left)
  F_law_left : Fun K "_law_left" "_law_left" s_law_left A.a_law_left A.d_law_left
  b_law_left : Binds K A.d_law_left ["_law_script", "_law_k"] []
  g_law_draw : mg "_law_draw" = some (.ref A.a_law_draw)
  F_law_draw : Fun K "_law_draw" "_law_draw" s_law_draw A.a_law_draw A.d_law_draw
  b_law_draw : Binds K A.d_law_draw ["_law_left_here", "_law_base"] []
  g_law_line : mg "_law_line" = some (.ref A.a_law_line)
  F_law_line : Fun K "_law_line" "_law_line" s_law_line A.a_law_line A.d_law_line
  b_law_line : Binds K A.d_law_line ["_law_left_here"] []
  g_law_way : mg "_law_way" = some (.ref A.a_law_way)
  F_law_way : Fun K "_law_way" "_law_way" s_law_way A.a_law_way A.d_law_way
  b_law_way : Binds K A.d_law_way ["_law_left_here", "_law_many"] []
  g_law_short_way : mg "_law_short_way" = some (.ref A.a_law_short_way)
  F_law_short_way : Fun K "_law_short_way" "_law_short_way" s_law_short_way A.a_law_short_way A.d_law_short_way
  b_law_short_way : Binds K A.d_law_short_way ["_law_left_here", "_law_many"] []
  g_law_ways : mg "_law_ways" = some (.ref A.a_law_ways)
  F_law_ways : Fun K "_law_ways" "_law_ways" s_law_ways A.a_law_ways A.d_law_ways
  b_law_ways : Binds K A.d_law_ways ["_law_left_here", "_law_many"] []
  g_law_refused : mg "_law_refused" = some (.ref A.a_law_refused)
  F_law_refused : Fun K "_law_refused" "_law_refused" s_law_refused A.a_law_refused A.d_law_refused
  b_law_refused : Binds K A.d_law_refused ["_law_net", "_law_ways_here", "_law_which"] []
  g_law : mg "law" = some (.ref A.a_law)
  F_law : Fun K "law" "law" s_law A.a_law A.d_law
  b_law : Binds K A.d_law ["_law_script"] []
  c_MOST_PLACES : mg "MOST_PLACES" = some (.int 60 (g_tok mg "MOST_PLACES"))
  z_ValueError : mg "ValueError" = none
  z_bool : mg "bool" = none
  z_int : mg "int" = none
  z_isinstance : mg "isinstance" = none
  z_len : mg "len" = none
  z_list : mg "list" = none
  z_max : mg "max" = none
  z_min : mg "min" = none
  z_range : mg "range" = none
  k_TieError : mg "TieError" = some (.ref A.c_TieError)
  x_TieError : ExK K A.c_TieError
  t_TieError : PySem.W.typeIn K (.ref A.c_TieError) = some (.type "type")
  k_NoNet : mg "NoNet" = some (.ref A.c_NoNet)
  x_NoNet : ExK K A.c_NoNet
  t_NoNet : PySem.W.typeIn K (.ref A.c_NoNet) = some (.type "type")
  k_OtherNet : mg "OtherNet" = some (.ref A.c_OtherNet)
  x_OtherNet : ExK K A.c_OtherNet
  t_OtherNet : PySem.W.typeIn K (.ref A.c_OtherNet) = some (.type "type")
  k_NoWay : mg "NoWay" = some (.ref A.c_NoWay)
  x_NoWay : ExK K A.c_NoWay
  t_NoWay : PySem.W.typeIn K (.ref A.c_NoWay) = some (.type "type")
  k_TooMany : mg "TooMany" = some (.ref A.c_TooMany)
  x_TooMany : ExK K A.c_TooMany
  t_TooMany : PySem.W.typeIn K (.ref A.c_TooMany) = some (.type "type")
  k_NoHues : mg "NoHues" = some (.ref A.c_NoHues)
  x_NoHues : ExK K A.c_NoHues
  t_NoHues : PySem.W.typeIn K (.ref A.c_NoHues) = some (.type "type")
  k_NoPlace : mg "NoPlace" = some (.ref A.c_NoPlace)
  x_NoPlace : ExK K A.c_NoPlace
  t_NoPlace : PySem.W.typeIn K (.ref A.c_NoPlace) = some (.type "type")
  o_NoWay : OexC K A.c_NoWay
  in_NoWay : PySem.W.findIn K (.ref A.c_NoWay) "__init__" = some (some (.ref A.i_NoWay))
  ti_NoWay : PySem.W.typeIn K (.ref A.i_NoWay) = some (.type "function")
  Fi_NoWay : Fun K "__init__" "NoWay.__init__" s_init_NoWay A.i_NoWay A.di_NoWay
  bi_NoWay : Binds K A.di_NoWay ["self", "at"] []
  nf_NoWay : PySem.W.findIn K (.ref A.c_NoWay) "at" = some none
  o_NoHues : OexC K A.c_NoHues
  in_NoHues : PySem.W.findIn K (.ref A.c_NoHues) "__init__" = some (some (.ref A.i_NoHues))
  ti_NoHues : PySem.W.typeIn K (.ref A.i_NoHues) = some (.type "function")
  Fi_NoHues : Fun K "__init__" "NoHues.__init__" s_init_NoHues A.i_NoHues A.di_NoHues
  bi_NoHues : Binds K A.di_NoHues ["self", "place"] []
  nf_NoHues : PySem.W.findIn K (.ref A.c_NoHues) "place" = some none
  base_ : BaseI K mg A.c_TieError "TieError"
  u_NoWay : PySem.W.subIn K (.ref A.c_NoWay) (.ref A.c_TieError) = some true
  q_NoWay_NoHues : PySem.W.kitOne K (.ref A.c_NoWay) (.ref A.c_NoHues) = some false
  q_NoWay_NoNet : PySem.W.kitOne K (.ref A.c_NoWay) (.ref A.c_NoNet) = some false
  q_NoWay_NoPlace : PySem.W.kitOne K (.ref A.c_NoWay) (.ref A.c_NoPlace) = some false
  q_NoWay_NoWay : PySem.W.kitOne K (.ref A.c_NoWay) (.ref A.c_NoWay) = some true
  q_NoWay_OtherNet : PySem.W.kitOne K (.ref A.c_NoWay) (.ref A.c_OtherNet) = some false
  q_NoWay_TooMany : PySem.W.kitOne K (.ref A.c_NoWay) (.ref A.c_TooMany) = some false
  q_NoWay_ValueError : PySem.W.kitOne K (.ref A.c_NoWay) (.type "ValueError") = some true
  e_OtherNet : PySem.W.excIn K A.c_OtherNet [.type "ValueError", .type "Exception", .type "BaseException", .type "object"] "ValueError.__new__" = true
  p_OtherNet : PySem.W.keepIn K (.ref A.c_OtherNet) = true
  u_OtherNet : PySem.W.subIn K (.ref A.c_OtherNet) (.ref A.c_TieError) = some true
  q_OtherNet_NoHues : PySem.W.kitOne K (.ref A.c_OtherNet) (.ref A.c_NoHues) = some false
  q_OtherNet_NoNet : PySem.W.kitOne K (.ref A.c_OtherNet) (.ref A.c_NoNet) = some false
  q_OtherNet_NoPlace : PySem.W.kitOne K (.ref A.c_OtherNet) (.ref A.c_NoPlace) = some false
  q_OtherNet_NoWay : PySem.W.kitOne K (.ref A.c_OtherNet) (.ref A.c_NoWay) = some false
  q_OtherNet_OtherNet : PySem.W.kitOne K (.ref A.c_OtherNet) (.ref A.c_OtherNet) = some true
  q_OtherNet_TooMany : PySem.W.kitOne K (.ref A.c_OtherNet) (.ref A.c_TooMany) = some false
  q_OtherNet_ValueError : PySem.W.kitOne K (.ref A.c_OtherNet) (.type "ValueError") = some true
/-! ### nets -/
inductive Net where
  | line (n : Int)
  | ring (n : Int)
  | tree (ps : List Int)
def Net.kind : Net → Str
  | .line _ => Str.ofString "line"
  | .ring _ => Str.ofString "ring"
  | .tree _ => Str.ofString "tree"
def Net.size : Net → PyData
  | .line n => .int n
  | .ring n => .int n
  | .tree ps => dInts ps
abbrev Net.d (N : Net) : PyData := .tuple [.str N.kind, N.size]
def TreeOk (ps : List Int) : Prop := 1 ≤ ps.length ∧ ps.length < 60 ∧ ∀ k : Nat, k < ps.length → 0 ≤ ps.getD k 0 ∧ ps.getD k 0 ≤ k
def Net.ok : Net → Prop
  | .line n => 2 ≤ n ∧ n ≤ 60
  | .ring n => 3 ≤ n ∧ n ≤ 60
  | .tree ps => TreeOk ps
def Net.places : Net → Int
  | .line n => n
  | .ring n => n
  | .tree ps => ps.length + 1
theorem net_str {s t : Str} (h : decide (V.str s = V.str t) = true) : s = t := V.str.inj (of_decide_eq_true h)
/-- a net's tuple -/
theorem dp_net {K : PySem.W.Frag} {H : Hp} {v : V} {N : Net} (h : Dp K H v N.d) : ∃ a y, v = .ref a ∧ SqT K H a [.str N.kind, y] ∧ Dp K H y N.size := by
  obtain ⟨a, x, y, rfl, hs, hx, hy⟩ := dp_tup2 h
  obtain rfl := dp_str hx
  exact ⟨a, y, rfl, hs, hy⟩
theorem k_eqS {s t : Str} {H : Hp} {Q : VK} (h : Q (.bl (decide (s = t))) H) : rEq (.str s) (.str t) H Q := ⟨rfl, by
  have e : decide (V.str s = V.str t) = decide (s = t) := by
    by_cases c : s = t
    · rw [decide_eq_true c, decide_eq_true (by rw [c])]
    · rw [decide_eq_false c, decide_eq_false (fun z => c (V.str.inj z))]
  rw [e]; exact h⟩
theorem k_neS {s t : Str} {H : Hp} {Q : VK} (h : Q (.bl (!decide (s = t))) H) : rNe (.str s) (.str t) H Q := ⟨rfl, by
  have e : decide (V.str s = V.str t) = decide (s = t) := by
    by_cases c : s = t
    · rw [decide_eq_true c, decide_eq_true (by rw [c])]
    · rw [decide_eq_false c, decide_eq_false (fun z => c (V.str.inj z))]
  rw [e]; exact h⟩
theorem s_lt : decide (Str.ofString "line" = Str.ofString "tree") = false := by decide +kernel
theorem s_rt : decide (Str.ofString "ring" = Str.ofString "tree") = false := by decide +kernel
theorem s_lr : decide (Str.ofString "line" = Str.ofString "ring") = false := by decide +kernel
theorem s_rl : decide (Str.ofString "ring" = Str.ofString "line") = false := by decide +kernel
theorem s_tl : decide (Str.ofString "tree" = Str.ofString "line") = false := by decide +kernel
theorem s_tr : decide (Str.ofString "tree" = Str.ofString "ring") = false := by decide +kernel
theorem s_same (s : Str) : decide (s = s) = true := decide_eq_true rfl
/-- how far t lies up from a on a ring of n -/
def up (n a t : Int) : Int := if a ≤ t then t - a else t - a + n
/-- x lies in the part of the tree that hangs by k -/
def below (ps : List Int) (k : Nat) : Nat → Bool
  | 0 => decide (k = 0)
  | x + 1 => decide (k = x + 1) || (decide (k < x + 1) && if h : (ps.getD x 0).toNat < x + 1 then below ps k (ps.getD x 0).toNat else false)
termination_by x => x
decreasing_by exact h
def OnTie : Net → Int → Int → Int → Prop
  | .line _, a, b, t => min a b ≤ t ∧ t < max a b
  | .ring n, a, b, t => 0 ≤ t ∧ t < n ∧ up n a t < up n a b
  | .tree ps, a, b, t => 0 ≤ t ∧ t < ps.length ∧ below ps (t.toNat + 1) a.toNat ≠ below ps (t.toNat + 1) b.toNat
def Net.far : Net → Int → Int → List Int → Prop
  | .line _, a, b, ns => (ns.length : Int) = max a b - min a b
  | .ring n, a, b, ns => (ns.length : Int) = up n a b
  | .tree _, _, _, ns => ns.length < 120
def isWay (N : Net) (a b : Int) : Prop := a ≠ b ∧ 0 ≤ a ∧ 0 ≤ b ∧ a < N.places ∧ b < N.places
instance (N : Net) (a b : Int) : Decidable (isWay N a b) := by unfold isWay; infer_instance
structure TiesOf (N : Net) (a b : Int) (ns : List Int) : Prop where
  srt : ns.Pairwise (· < ·)
  mem : ∀ t, t ∈ ns ↔ OnTie N a b t
  far : N.far a b ns

variable {P : Program} {w : World} {K : PySem.W.Frag} {mg : Str → Option Value} {base : Heap} {A : Ad}
def pr_is_tree (K : PySem.W.Frag) (v0 : V) (H : Hp) (Q : VK) (_ : XK) : Prop := ∃ ps, Dp K H v0 (dInts ps) ∧ ps.length ≤ 10000 ∧ ∀ b, (b = true ↔ TreeOk ps) → Q (.bl b) H
def t_is_tree (K : PySem.W.Frag) : TS :=
  (tSeq (tIfS (tOr (tTest (tOp xLt (tCB (rLen K) (tCons (tVar 0) tNil)) (tC (.int 1)))) (tTest (tOp xGe (tCB (rLen K) (tCons (tVar 0) tNil)) (tC (.int 60))))) (tRet (tC (.bl false))) tNext)
    (tSeq (tFor (iRng1 (tCons (tCB (rLen K) (tCons (tVar 0) tNil)) tNil)) (gName 1)
      (tIfS (tOr (tTest (tOp xLt (tOp (rIxL K) (tVar 0) (tVar 1)) (tC (.int 0)))) (tTest (tOp xGt (tOp (rIxL K) (tVar 0) (tVar 1)) (tVar 1)))) (tRet (tC (.bl false))) tNext))
    (tRet (tC (.bl true)))))
theorem pure_is_tree {v0 : V} {H : Hp} {Q : VK} {E : XK} (h : pr_is_tree K v0 H Q E) : t_is_tree K ⟨fun _ H' => Q .non H', Q, fun _ _ => False, fun _ _ => False⟩ [some v0, none] H := by
  obtain ⟨ps, hp, hz, q⟩ := h
  obtain ⟨a, rfl, ha⟩ := dp_ints hp
  unfold t_is_tree
  wtm_at "s"
  refine k_it (fun c1 => ?_) (fun c1 => ?_)
  · wtm_at "s"
    exact q _ (ff_iff fun z => absurd z.1 (by omega))
  wtm_at "s"
  refine k_it (fun c2 => ?_) (fun c2 => ?_)
  · wtm_at "s"
    exact q _ (ff_iff fun z => absurd z.2.1 (by omega))
  wtm_at "s"
  refine forR (fun i σ' H' => H' = H ∧ (∃ k, σ' = [some (.ref a), k]) ∧ ∀ k : Nat, k < i → 0 ≤ ps.getD k 0 ∧ ps.getD k 0 ≤ k) ⟨rfl, ⟨none, rfl⟩, fun k hk => absurd hk (by omega)⟩ ?_ ?_
  · rintro i σ' H' hi ⟨rfl, ⟨k, rfl⟩, hk⟩
    wtm_at "s"
    refine k_ixI ha (by omega) (by omega) ?_
    wtm_at "s"
    rw [show (0 + (i : Int)).toNat = i by omega]
    refine k_it (fun c3 => ?_) (fun c3 => ?_)
    · wtm_at "s"
      exact q _ (ff_iff fun z => absurd (z.2.2 i (by omega)).1 (by omega))
    wtm_at "s"
    refine k_ixI ha (by omega) (by omega) ?_
    wtm_at "s"
    rw [show (0 + (i : Int)).toNat = i by omega]
    refine k_it (fun c4 => ?_) (fun c4 => ?_)
    · wtm_at "s"
      exact q _ (ff_iff fun z => absurd (z.2.2 i (by omega)).2 (by omega))
    wtm_at "s"
    refine ⟨rfl, ⟨_, rfl⟩, fun k hk' => ?_⟩
    by_cases e : k = i
    · subst e; omega
    · exact hk k (by omega)
  · rintro σ' H' ⟨rfl, ⟨k, rfl⟩, hk⟩
    wtm_at "s"
    exact q _ (tt_iff ⟨by omega, by omega, fun k h => hk k (by omega)⟩)
abbrev sp_is_tree (K : PySem.W.Frag) : Sp := fun vs H Q E => ∃ v0, vs = [v0] ∧ pr_is_tree K v0 H Q E
theorem ok_is_tree (T : Txt K mg A) : FnOk P w K mg base CX0 1 A.a_is_tree A.d_is_tree ["parents"] (sp_is_tree K) := by
  refine T.F_is_tree.ok sc_is_tree (fun vs H Q E h => by obtain ⟨v0, rfl, _⟩ := h; rfl) (fun cdv A0 outer s H vs Q E hr h => ?_)
  obtain ⟨v0, rfl, h⟩ := h
  exact ⟨t_is_tree K, (pss_cons (ps_if (PW.pt (pw_or (pt_cmpR op_lt (pe_callB q_len (by rfl) T.z_len (by decide +kernel) (pa_cons (pv 0) pa_nil)) pe_int (nomark _)) (pw_or1 (pt_cmpR op_ge (pe_callB q_len (by rfl) T.z_len (by decide +kernel) (pa_cons (pv 0) pa_nil)) (pe_glob (v := .int 60) (by rfl) T.c_MOST_PLACES ⟨_, rfl⟩) (nomark _))))) (pss_one (ps_ret pe_bl)) pss_nil)
      (pss_cons (ps_for PassesOwn.never rfl (pi_range1 (by rfl) T.z_range (pa_cons (pe_callB q_len (by rfl) T.z_len (by decide +kernel) (pa_cons (pv 0) pa_nil)) pa_nil)) (pg_name (i := 1) sc_is_tree.nd rfl (Or.inl rfl))
      (pss_one (ps_if (PW.pt (pw_or (pt_cmpR op_lt (pe_ix ix_list (pv 0) (pv 1) (fun _ _ => rfl)) pe_int (nomark _)) (pw_or1 (pt_cmpR op_gt (pe_ix ix_list (pv 0) (pv 1) (fun _ _ => rfl)) (pv 1) (nomark _))))) (pss_one (ps_ret pe_bl)) pss_nil)))
      (pss_one (ps_ret pe_bl)))), pure_is_tree h⟩
def pr_look_net (K : PySem.W.Frag) (v0 : V) (H : Hp) (Q : VK) (_ : XK) : Prop := ∃ N : Net, Dp K H v0 N.d ∧ N.ok ∧ Q .non H
def t_look_net (K : PySem.W.Frag) : TS :=
  (tSeq (tAsg (tVar 0) (gTup K 2 (gCons (gName 1) (gCons (gName 2) gNil))))
    (tSeq (tIfS (tTest (tOp rEq (tVar 1) (tC (.str (Str.ofString "tree"))))) (tAsg (tAndV (tCB (rIsi K) (tCons (tVar 2) (tCons (tC (.ty "list")) tNil))) (tCall (sp_is_tree K) [] E0 (tCons (tVar 2) tNil))) (gName 3)) (tIfS (tOr (tTest (tOp rEq (tVar 1) (tC (.str (Str.ofString "line"))))) (tTest (tOp rEq (tVar 1) (tC (.str (Str.ofString "ring")))))) (tAsg (tAndV (tNotV (tCB (rIsi K) (tCons (tVar 2) (tCons (tC (.ty "list")) tNil)))) (tAndV (tOp xGe (tVar 2) (tOp xAdd (tC (.int 2)) (tCB rIntOf (tCons (tOp rEq (tVar 1) (tC (.str (Str.ofString "ring")))) tNil)))) (tOp xLe (tVar 2) (tC (.int 60))))) (gName 3)) (tAsg (tC (.bl false)) (gName 3))))
    (tIfS (tNot (tB (tVar 3))) tNever tNext)))
theorem pure_look_net {v0 : V} {H : Hp} {Q : VK} {E : XK} (h : pr_look_net K v0 H Q E) : t_look_net K ⟨fun _ H' => Q .non H', Q, fun _ _ => False, fun _ _ => False⟩ [some v0, none, none, none] H := by
  obtain ⟨N, hd, ok, q⟩ := h
  obtain ⟨a, y, rfl, hs, hy⟩ := dp_net hd
  unfold t_look_net
  cases N with
  | line n =>
    obtain rfl := dp_int hy
    obtain ⟨o1, o2⟩ := ok
    wtm_at "s"
    refine k_eqS ?_
    rw [show Net.kind (.line n) = Str.ofString "line" from rfl, s_lt]
    wtm_at "s"
    refine k_eqS ?_
    rw [s_same]
    wtm_at "s"
    refine k_eqS ?_
    rw [s_lr]
    wtm_at "s"
    have e1 : decide (2 + (if false = true then 1 else 0) ≤ n) = true := by simp; omega
    rw [e1]
    wtm_at "s"
    exact q
  | ring n =>
    obtain rfl := dp_int hy
    obtain ⟨o1, o2⟩ := ok
    wtm_at "s"
    refine k_eqS ?_
    rw [show Net.kind (.ring n) = Str.ofString "ring" from rfl, s_rt]
    wtm_at "s"
    refine k_eqS ?_
    rw [s_rl]
    wtm_at "s"
    refine k_eqS ?_
    rw [s_same]
    wtm_at "s"
    refine k_eqS ?_
    rw [s_same]
    wtm_at "s"
    exact q
  | tree ps =>
    obtain ⟨b, rfl, hb⟩ := dp_ints hy
    wtm_at "s"
    refine k_eqS ?_
    rw [show Net.kind (.tree ps) = Str.ofString "tree" from rfl, s_same]
    wtm_at "s"
    refine ⟨_, rfl, ps, hy, by have := ok.2.1; omega, fun r hr => ?_⟩
    obtain rfl := hr.mpr ok
    wtm_at "s"
    exact q
abbrev sp_look_net (K : PySem.W.Frag) : Sp := fun vs H Q E => ∃ v0, vs = [v0] ∧ pr_look_net K v0 H Q E
theorem ok_look_net (T : Txt K mg A) : FnOk P w K mg base CX0 2 A.a_look_net A.d_look_net ["net"] (sp_look_net K) := by
  refine T.F_look_net.ok sc_look_net (fun vs H Q E h => by obtain ⟨v0, rfl, _⟩ := h; rfl) (fun cdv A0 outer s H vs Q E hr h => ?_)
  obtain ⟨v0, rfl, h⟩ := h
  exact ⟨t_look_net K, (pss_cons (ps_asg (pv 0) (pg_tup (by rfl) (pgs_cons (pg_name (i := 1) sc_look_net.nd rfl (Or.inl rfl)) (pgs_cons (pg_name (i := 2) sc_look_net.nd rfl (Or.inl rfl)) pgs_nil))))
      (pss_cons (ps_if (pt_cmpR op_eq (pv 1) pe_str (nomark _)) (pss_one (ps_set (i := 3) sc_look_net.nd rfl (Or.inl rfl) (pe_and (pe_callB q_isi (by rfl) T.z_isinstance (by decide +kernel) (pa_cons (pv 2) (pa_cons (pe_bltn (v := .ty "list") (by rfl) T.z_list (by decide +kernel) rfl) pa_nil))) (pe_one (pe_call (ok_is_tree T) (hr.mono (by decide)) (by rfl) T.g_is_tree T.F_is_tree.kp T.b_is_tree .nil pass0 (pa_cons (pv 2) pa_nil)))))) (pss_one (ps_if (PW.pt (pw_or (pt_cmpR op_eq (pv 1) pe_str (nomark _)) (pw_or1 (pt_cmpR op_eq (pv 1) pe_str (nomark _))))) (pss_one (ps_set (i := 3) sc_look_net.nd rfl (Or.inl rfl) (pe_and (pe_not (pe_callB q_isi (by rfl) T.z_isinstance (by decide +kernel) (pa_cons (pv 2) (pa_cons (pe_bltn (v := .ty "list") (by rfl) T.z_list (by decide +kernel) rfl) pa_nil)))) (pe_and (pe_cmpR op_ge (pv 2) (pe_op op_add pe_int (pe_callTy q_intB (by rfl) T.z_int (by decide +kernel) (pa_cons (pe_cmpR op_eq (pv 1) pe_str (nomark _)) pa_nil))) (nomark _)) (pe_one (pe_cmpR op_le (pv 2) (pe_glob (v := .int 60) (by rfl) T.c_MOST_PLACES ⟨_, rfl⟩) (nomark _))))))) (pss_one (ps_set (i := 3) sc_look_net.nd rfl (Or.inl rfl) pe_bl)))))
      (pss_one (ps_if (pt_not (pt_val (pv 3))) (pss_one ps_never) pss_nil)))), pure_look_net h⟩
def pr_must_be_kind (K : PySem.W.Frag) (A : Ad) (v0 v1 : V) (H : Hp) (Q : VK) (E : XK) : Prop := ∃ (N : Net) (k : Str), v1 = .str k ∧ Dp K H v0 N.d ∧ N.ok ∧ ((N.kind ≠ k ∧ E (.ref A.c_OtherNet) none H) ∨ (N.kind = k ∧ Q .non H))
def t_must_be_kind (K : PySem.W.Frag) (A : Ad) (E : XK) : TS :=
  (tSeq (tDrop (tCall (sp_look_net K) [] E0 (tCons (tVar 0) tNil)))
    (tIfS (tTest (tOp rNe (tOp (rIxT K) (tVar 0) (tC (.int 0))) (tVar 1))) (tRaiseP A.c_OtherNet E) tNext))
theorem pure_must_be_kind {v0 v1 : V} {H : Hp} {Q : VK} {E : XK} (h : pr_must_be_kind K A v0 v1 H Q E) : t_must_be_kind K A E ⟨fun _ H' => Q .non H', Q, fun _ _ => False, fun _ _ => False⟩ [some v0, some v1] H := by
  obtain ⟨N, k, rfl, hd, ok, h⟩ := h
  obtain ⟨a, y, rfl, hs, hy⟩ := dp_net hd
  unfold t_must_be_kind
  wtm_at "s"
  refine ⟨_, rfl, N, hd, ok, ?_⟩
  wtm_at "s"
  refine k_neS ?_
  rcases h with ⟨hk, hE⟩ | ⟨hk, hQ⟩
  · rw [decide_eq_false hk]
    wtm_at "s"
    exact hE
  · rw [decide_eq_true hk]
    wtm_at "s"
    exact hQ
abbrev sp_must_be_kind (K : PySem.W.Frag) (A : Ad) : Sp := fun vs H Q E => ∃ v0 v1, vs = [v0, v1] ∧ pr_must_be_kind K A v0 v1 H Q E
theorem ok_must_be_kind (T : Txt K mg A) : FnOk P w K mg base (L2.CX P w) 3 A.a_must_be_kind A.d_must_be_kind ["net", "kind"] (sp_must_be_kind K A) := by
  refine T.F_must_be_kind.okX sc_must_be_kind (fun vs H Q E h => by obtain ⟨v0, v1, rfl, _⟩ := h; rfl) (fun cdv A0 outer s H vs Q E hr h => ?_)
  obtain ⟨v0, v1, rfl, h⟩ := h
  exact ⟨t_must_be_kind K A E, (pss_cons (ps_expr (pe_call (ok_look_net T) (hr.mono (by decide)) (by rfl) T.g_look_net T.F_look_net.kp T.b_look_net .nil pass0 (pa_cons (pv 0) pa_nil)))
      (pss_one (ps_if (pt_cmpR op_ne (pe_ix ix_tup (pv 0) pe_int (fun _ _ => rfl)) (pv 1) (nomark _)) (pss_one (ps_raise rfl (takes_of rfl rfl rfl rfl) (pmk_own PySem.F.excBase_ValueError T.e_OtherNet T.k_OtherNet T.p_OtherNet (raises_own T.x_OtherNet.hs T.t_OtherNet) (by rfl)))) pss_nil))), pure_must_be_kind h⟩


def pr_places_of (K : PySem.W.Frag) (v0 : V) (H : Hp) (Q : VK) (_ : XK) : Prop := ∃ N : Net, Dp K H v0 N.d ∧ Q (.int N.places) H
def t_places_of (K : PySem.W.Frag) : TS :=
  (tSeq (tIfS (tTest (tOp rEq (tOp (rIxT K) (tVar 0) (tC (.int 0))) (tC (.str (Str.ofString "tree"))))) (tRet (tOp xAdd (tCB (rLen K) (tCons (tOp (rIxT K) (tVar 0) (tC (.int 1))) tNil)) (tC (.int 1)))) tNext)
    (tRet (tOp (rIxT K) (tVar 0) (tC (.int 1)))))
theorem pure_places_of {v0 : V} {H : Hp} {Q : VK} {E : XK} (h : pr_places_of K v0 H Q E) : t_places_of K ⟨fun _ H' => Q .non H', Q, fun _ _ => False, fun _ _ => False⟩ [some v0] H := by
  obtain ⟨N, hd, q⟩ := h
  obtain ⟨a, y, rfl, hs, hy⟩ := dp_net hd
  unfold t_places_of
  wtm_at "s"
  refine k_eqS ?_
  cases N with
  | line n =>
    obtain rfl := dp_int hy
    rw [show Net.kind (.line n) = Str.ofString "line" from rfl, s_lt]
    wtm_at "s"
    exact q
  | ring n =>
    obtain rfl := dp_int hy
    rw [show Net.kind (.ring n) = Str.ofString "ring" from rfl, s_rt]
    wtm_at "s"
    exact q
  | tree ps =>
    obtain ⟨b, rfl, hb⟩ := dp_ints hy
    rw [show Net.kind (.tree ps) = Str.ofString "tree" from rfl, s_same]
    wtm_at "s"
    exact q
abbrev sp_places_of (K : PySem.W.Frag) : Sp := fun vs H Q E => ∃ v0, vs = [v0] ∧ pr_places_of K v0 H Q E
theorem ok_places_of (T : Txt K mg A) : FnOk P w K mg base CX0 1 A.a_places_of A.d_places_of ["net"] (sp_places_of K) := by
  refine T.F_places_of.ok sc_places_of (fun vs H Q E h => by obtain ⟨v0, rfl, _⟩ := h; rfl) (fun cdv A0 outer s H vs Q E hr h => ?_)
  obtain ⟨v0, rfl, h⟩ := h
  exact ⟨t_places_of K, (pss_cons (ps_if (pt_cmpR op_eq (pe_ix ix_tup (pv 0) pe_int (fun _ _ => rfl)) pe_str (nomark _)) (pss_one (ps_ret (pe_op op_add (pe_callB q_len (by rfl) T.z_len (by decide +kernel) (pa_cons (pe_ix ix_tup (pv 0) pe_int (fun _ _ => rfl)) pa_nil)) pe_int))) pss_nil)
      (pss_one (ps_ret (pe_ix ix_tup (pv 0) pe_int (fun _ _ => rfl))))), pure_places_of h⟩
def pr_is_way (K : PySem.W.Frag) (v0 v1 : V) (H : Hp) (Q : VK) (_ : XK) : Prop := ∃ (N : Net) (a b : Int), Dp K H v0 N.d ∧ Dp K H v1 (dPair (a, b)) ∧ Q (.bl (decide (isWay N a b))) H
def t_is_way (K : PySem.W.Frag) : TS :=
  (tSeq (tAsg (tVar 1) (gTup K 2 (gCons (gName 2) (gCons (gName 3) gNil))))
    (tRet (tAndV (tOp rNe (tVar 2) (tVar 3)) (tAndV (tOp xGe (tCB rMin2 (tCons (tVar 2) (tCons (tVar 3) tNil))) (tC (.int 0))) (tOp xLt (tCB rMax2 (tCons (tVar 2) (tCons (tVar 3) tNil))) (tCall (sp_places_of K) [] E0 (tCons (tVar 0) tNil)))))))
theorem pure_is_way {v0 v1 : V} {H : Hp} {Q : VK} {E : XK} (h : pr_is_way K v0 v1 H Q E) : t_is_way K ⟨fun _ H' => Q .non H', Q, fun _ _ => False, fun _ _ => False⟩ [some v0, some v1, none, none] H := by
  obtain ⟨N, a, b, hd, hw, q⟩ := h
  obtain ⟨p, rfl, hp⟩ := dp_pair hw
  have kk : ∀ r : Bool, (r = true ↔ isWay N a b) → Q (.bl r) H := fun r hr => by
    have : r = decide (isWay N a b) := by
      by_cases c : isWay N a b
      · rw [decide_eq_true c]; exact hr.mpr c
      · rw [decide_eq_false c]
        cases r with
        | false => rfl
        | true => exact absurd (hr.mp rfl) c
    rw [this]; exact q
  unfold t_is_way
  wtm_at "s"
  refine k_itn (fun c1 => ?_) (fun c1 => ?_)
  · wtm_at "s"
    refine k_it (fun c2 => ?_) (fun c2 => ?_)
    · wtm_at "s"
      refine ⟨_, rfl, N, hd, ?_⟩
      wtm_at "s"
      refine kk _ ?_
      simp only [decide_eq_true_eq, isWay]
      constructor
      · intro z
        split at z <;> split at c2 <;> omega
      · intro z
        split <;> omega
    · wtm_at "s"
      refine kk _ (ff_iff fun z => c2 ?_)
      obtain ⟨z1, z2, z3, z4, z5⟩ := z
      split <;> omega
  · wtm_at "s"
    exact kk _ (ff_iff fun z => z.1 c1)
abbrev sp_is_way (K : PySem.W.Frag) : Sp := fun vs H Q E => ∃ v0 v1, vs = [v0, v1] ∧ pr_is_way K v0 v1 H Q E
theorem ok_is_way (T : Txt K mg A) : FnOk P w K mg base CX0 2 A.a_is_way A.d_is_way ["net", "way"] (sp_is_way K) := by
  refine T.F_is_way.ok sc_is_way (fun vs H Q E h => by obtain ⟨v0, v1, rfl, _⟩ := h; rfl) (fun cdv A0 outer s H vs Q E hr h => ?_)
  obtain ⟨v0, v1, rfl, h⟩ := h
  exact ⟨t_is_way K, (pss_cons (ps_asg (pv 1) (pg_tup (by rfl) (pgs_cons (pg_name (i := 2) sc_is_way.nd rfl (Or.inl rfl)) (pgs_cons (pg_name (i := 3) sc_is_way.nd rfl (Or.inl rfl)) pgs_nil))))
      (pss_one (ps_ret (pe_and (pe_cmpR op_ne (pv 2) (pv 3) (nomark _)) (pe_and (pe_cmpR op_ge (pe_callB (q_min2 (by rfl)) (by rfl) T.z_min (by decide +kernel) (pa_cons (pv 2) (pa_cons (pv 3) pa_nil))) pe_int (nomark _)) (pe_one (pe_cmpR op_lt (pe_callB (q_max2 (by rfl)) (by rfl) T.z_max (by decide +kernel) (pa_cons (pv 2) (pa_cons (pv 3) pa_nil))) (pe_call (ok_places_of T) (hr.mono (by decide)) (by rfl) T.g_places_of T.F_places_of.kp T.b_places_of .nil pass0 (pa_cons (pv 0) pa_nil)) (nomark _)))))))), pure_is_way h⟩


theorem ok_init_NoWay (T : Txt K mg A) : FnOk P w K mg base CX0 1 A.i_NoWay A.di_NoWay ["self", "at"] (spInit A.c_NoWay (Str.ofString "at")) := by
  refine T.Fi_NoWay.ok sc_init_NoWay (fun vs H Q E h => by obtain ⟨v0, v1, rfl, _⟩ := h; rfl) (fun cdv A0 outer s H vs Q E hr h => ?_)
  obtain ⟨v0, v1, rfl, h⟩ := h
  exact ⟨_, pss_cons (ps_expr (pe_binit T.base_ (by rfl) (pa_cons (pv 0) (pa_cons pe_str pa_nil)))) (pss_one (ps_ost (pv 0) (pv 1))), init_reads (B := A.c_TieError) T.o_NoWay T.nf_NoWay h⟩
theorem ok_init_NoHues (T : Txt K mg A) : FnOk P w K mg base CX0 1 A.i_NoHues A.di_NoHues ["self", "place"] (spInit A.c_NoHues (Str.ofString "place")) := by
  refine T.Fi_NoHues.ok sc_init_NoHues (fun vs H Q E h => by obtain ⟨v0, v1, rfl, _⟩ := h; rfl) (fun cdv A0 outer s H vs Q E hr h => ?_)
  obtain ⟨v0, v1, rfl, h⟩ := h
  exact ⟨_, pss_cons (ps_expr (pe_binit T.base_ (by rfl) (pa_cons (pv 0) (pa_cons pe_str pa_nil)))) (pss_one (ps_ost (pv 0) (pv 1))), init_reads (B := A.c_TieError) T.o_NoHues T.nf_NoHues h⟩
/-- the first of ws that is no way -/
def FirstBad (N : Net) (ws : List (Int × Int)) (i : Nat) : Prop := ∃ w, ws[i]? = some w ∧ ¬ isWay N w.1 w.2 ∧ ∀ j v, j < i → ws[j]? = some v → isWay N v.1 v.2
theorem no_bad {N : Net} {ws : List (Int × Int)} {i : Nat} (h : ∀ w ∈ ws, isWay N w.1 w.2) : ¬ FirstBad N ws i := fun ⟨w, h1, h2, _⟩ => h2 (h w (List.mem_of_getElem? h1))
theorem bad_one {N : Net} {ws : List (Int × Int)} {i j : Nat} (h1 : FirstBad N ws i) (h2 : FirstBad N ws j) : i = j := by
  obtain ⟨w1, x1, x2, x3⟩ := h1
  obtain ⟨w2, y1, y2, y3⟩ := h2
  by_cases c1 : i < j
  · exact absurd (y3 i w1 c1 x1) x2
  · by_cases c2 : j < i
    · exact absurd (x3 j w2 c2 y1) y2
    · omega
theorem bad_mid {N : Net} {ws vs : List (Int × Int)} {b : Int × Int} (h : ∀ w ∈ ws, isWay N w.1 w.2) (hb : ¬ isWay N b.1 b.2) : FirstBad N (ws ++ [b] ++ vs) ws.length := by
  refine ⟨b, by simp, hb, fun j v hj hv => ?_⟩
  rw [List.append_assoc, List.getElem?_append_left hj] at hv
  exact h v (List.mem_of_getElem? hv)
def pr_must_be_ways (K : PySem.W.Frag) (A : Ad) (v0 v1 : V) (H : Hp) (Q : VK) (E : XK) : Prop := ∃ (N : Net) (ws : List (Int × Int)), Dp K H v0 N.d ∧ Dp K H v1 (dPairs ws) ∧ ws.length ≤ 10000 ∧ ((∀ w ∈ ws, isWay N w.1 w.2) → Q .non H) ∧
  (∀ i, FirstBad N ws i → ∀ d, H d = none → E (.ref A.c_NoWay) (some d) (upd H d (.xd [(Str.ofString "at", .int i)])))
def t_must_be_ways (K : PySem.W.Frag) (A : Ad) (E : XK) : TS :=
  (tFor (iRng1 (tCons (tCB (rLen K) (tCons (tVar 1) tNil)) tNil)) (gName 2)
      (tIfS (tNot (tB (tCall (sp_is_way K) [] E0 (tCons (tVar 0) (tCons (tOp (rIxL K) (tVar 1) (tVar 2)) tNil))))) (tRaiseO A.c_NoWay (spInit A.c_NoWay (Str.ofString "at")) (tCons (tVar 2) tNil) E) tNext))
theorem pure_must_be_ways {v0 v1 : V} {H : Hp} {Q : VK} {E : XK} (h : pr_must_be_ways K A v0 v1 H Q E) : t_must_be_ways K A E ⟨fun _ H' => Q .non H', Q, fun _ _ => False, fun _ _ => False⟩ [some v0, some v1, none] H := by
  obtain ⟨N, ws, hd, hw, hz, q, qx⟩ := h
  obtain ⟨b, xs, rfl, hb, hxs⟩ := dp_list hw
  have hl := dpa_len hxs
  rw [List.length_map] at hl
  unfold t_must_be_ways
  wtm_at "s"
  rw [hl]
  refine forR (fun i σ' H' => H' = H ∧ (∃ k, σ' = [some v0, some (.ref b), k]) ∧ ∀ (j : Nat) v, j < i → ws[j]? = some v → isWay N v.1 v.2) ⟨rfl, ⟨none, rfl⟩, fun j v hj => absurd hj (by omega)⟩ ?_ (fun σ' H' ⟨e, _, a⟩ => e ▸ q (fun w hw => by
    obtain ⟨j, hj, e⟩ := List.getElem_of_mem hw
    exact a j w (by simpa using hj) (by rw [List.getElem?_eq_getElem hj, e])))
  rintro i σ' H' hi ⟨rfl, ⟨k, rfl⟩, al⟩
  have hi' : i < xs.length := by omega
  obtain ⟨x, hx⟩ : ∃ x, xs[i]? = some x := ⟨xs[i], List.getElem?_eq_getElem hi'⟩
  obtain ⟨d, hd1, hd2⟩ := dpa_get hxs hx
  rw [List.getElem?_map] at hd1
  obtain ⟨w, hw1, rfl⟩ := Option.map_eq_some_iff.mp hd1
  wtm_at "s"
  refine k_ixL hb (by rw [Int.zero_add]; exact atI_nat hx) ?_
  wtm_at "s"
  refine ⟨_, _, rfl, N, w.1, w.2, hd, hd2, ?_⟩
  wtm_at "s"
  refine k_itn (fun c => ?_) (fun c => ?_)
  · refine k_raiseO (f := Str.ofString "at") (v := .int (0 + (i : Nat))) (fun R h => ?_) (fun d nd => ?_)
    · wtm_at "s"; exact h
    · rw [Int.zero_add]; exact qx i ⟨w, hw1, c, fun j v hj => al j v hj⟩ d nd
  · wtm_at "s"
    refine ⟨rfl, ⟨_, rfl⟩, fun j v hj hv => ?_⟩
    by_cases e : j = i
    · subst e; rw [hw1] at hv; cases hv; exact c
    · exact al j v (by omega) hv
abbrev sp_must_be_ways (K : PySem.W.Frag) (A : Ad) : Sp := fun vs H Q E => ∃ v0 v1, vs = [v0, v1] ∧ pr_must_be_ways K A v0 v1 H Q E
theorem ok_must_be_ways (T : Txt K mg A) : FnOk P w K mg base (L2.CX P w) 3 A.a_must_be_ways A.d_must_be_ways ["net", "ways"] (sp_must_be_ways K A) := by
  refine T.F_must_be_ways.okX sc_must_be_ways (fun vs H Q E h => by obtain ⟨v0, v1, rfl, _⟩ := h; rfl) (fun cdv A0 outer s H vs Q E hr h => ?_)
  obtain ⟨v0, v1, rfl, h⟩ := h
  exact ⟨t_must_be_ways K A E, (pss_one (ps_for (passes_of rfl) rfl (pi_range1 (by rfl) T.z_range (pa_cons (pe_callB q_len (by rfl) T.z_len (by decide +kernel) (pa_cons (pv 1) pa_nil)) pa_nil)) (pg_name (i := 2) sc_must_be_ways.nd rfl (Or.inl rfl))
      (pss_one (ps_if (pt_not (pt_val (pe_call (ok_is_way T) (hr.mono (by decide)) (by rfl) T.g_is_way T.F_is_way.kp T.b_is_way .nil pass0 (pa_cons (pv 0) (pa_cons (pe_ix ix_list (pv 1) (pv 2) (fun _ _ => rfl)) pa_nil))))) (pss_one (ps_raise rfl (takes_of rfl rfl rfl rfl) (pmk_oex T.o_NoWay T.in_NoWay T.ti_NoWay (ok_init_NoWay T) (hr.mono (by decide)) T.bi_NoWay .nil pass0 (by rfl) T.k_NoWay (pa_cons (pv 2) pa_nil)))) pss_nil)))), pure_must_be_ways h⟩
/-- a net that is no line, or ways of a line that are none -/
def LR (K : PySem.W.Frag) (A : Ad) (v0 v1 : V) (H : Hp) (E : XK) : Prop := ∃ (N : Net) (ws : List (Int × Int)), Dp K H v0 N.d ∧ N.ok ∧ Dp K H v1 (dPairs ws) ∧ ws.length ≤ 10000 ∧
  ((N.kind ≠ Str.ofString "line" ∧ E (.ref A.c_OtherNet) none H) ∨
   (∃ i, N.kind = Str.ofString "line" ∧ FirstBad N ws i ∧ ∀ d, H d = none → E (.ref A.c_NoWay) (some d) (upd H d (.xd [(Str.ofString "at", .int i)]))))
def pr_line_hues (K : PySem.W.Frag) (A : Ad) (v0 v1 : V) (H : Hp) (Q : VK) (E : XK) : Prop := LR K A v0 v1 H E
def t_line_hues (K : PySem.W.Frag) (A : Ad) (E : XK) : TS :=
  (tSeq (tDrop (tCall (sp_must_be_kind K A) [] E (tCons (tVar 0) (tCons (tC (.str (Str.ofString "line"))) tNil))))
    (tSeq (tDrop (tCall (sp_must_be_ways K A) [] E (tCons (tVar 0) (tCons (tVar 1) tNil))))
    (tSeq tNever
    (tSeq tNever
    (tSeq tNever
    (tSeq tNever
    (tSeq tNever
    tNever)))))))
theorem pure_line_hues {v0 v1 : V} {H : Hp} {Q : VK} {E : XK} (h : pr_line_hues K A v0 v1 H Q E) : t_line_hues K A E ⟨fun _ H' => Q .non H', Q, fun _ _ => False, fun _ _ => False⟩ [some v0, some v1, none, none, none, none, none, none, none, none] H := by
  obtain ⟨N, ws, hd, ok, hw, hz, h⟩ := h
  unfold t_line_hues
  wtm_at "s"
  rcases h with h | ⟨i, hk, fb, h⟩
  · exact ⟨_, _, rfl, N, _, rfl, hd, ok, .inl h⟩
  · refine ⟨_, _, rfl, N, _, rfl, hd, ok, .inr ⟨hk, ?_⟩⟩
    wtm_at "s"
    exact ⟨_, _, rfl, N, ws, hd, hw, hz, fun z => absurd fb (no_bad z), fun j fb2 => bad_one fb fb2 ▸ h⟩
abbrev sp_line_hues (K : PySem.W.Frag) (A : Ad) : Sp := fun vs H Q E => ∃ v0 v1, vs = [v0, v1] ∧ pr_line_hues K A v0 v1 H Q E
theorem ok_line_hues (T : Txt K mg A) : FnOk P w K mg base (L2.CX P w) 4 A.a_line_hues A.d_line_hues ["net", "ways"] (sp_line_hues K A) := by
  refine T.F_line_hues.okX sc_line_hues (fun vs H Q E h => by obtain ⟨v0, v1, rfl, _⟩ := h; rfl) (fun cdv A0 outer s H vs Q E hr h => ?_)
  obtain ⟨v0, v1, rfl, h⟩ := h
  exact ⟨t_line_hues K A E, (pss_cons (ps_expr (pe_call (E := E) (ok_must_be_kind T) (hr.mono (by decide)) (by rfl) T.g_must_be_kind T.F_must_be_kind.kp T.b_must_be_kind .nil (passes_call (takes_of rfl rfl rfl rfl) (fun _ _ _ _ h => h)) (pa_cons (pv 0) (pa_cons pe_str pa_nil))))
      (pss_cons (ps_expr (pe_call (E := E) (ok_must_be_ways T) (hr.mono (by decide)) (by rfl) T.g_must_be_ways T.F_must_be_ways.kp T.b_must_be_ways .nil (passes_call (takes_of rfl rfl rfl rfl) (fun _ _ _ _ h => h)) (pa_cons (pv 0) (pa_cons (pv 1) pa_nil))))
      (pss_cons ps_never
      (pss_cons ps_never
      (pss_cons ps_never
      (pss_cons ps_never
      (pss_cons ps_never
      (pss_one ps_never)))))))), pure_line_hues h⟩
def pr_shows (K : PySem.W.Frag) (A : Ad) (v0 v1 v2 : V) (H : Hp) (Q : VK) (E : XK) : Prop := LR K A v0 v1 H E
def t_shows (K : PySem.W.Frag) (A : Ad) (E : XK) : TS :=
  (tSeq (tDrop (tCall (sp_must_be_kind K A) [] E (tCons (tVar 0) (tCons (tC (.str (Str.ofString "line"))) tNil))))
    (tSeq (tDrop (tCall (sp_must_be_ways K A) [] E (tCons (tVar 0) (tCons (tVar 1) tNil))))
    (tSeq tNever
    (tSeq tNever
    (tSeq tNever
    tNever)))))
theorem pure_shows {v0 v1 v2 : V} {H : Hp} {Q : VK} {E : XK} (h : pr_shows K A v0 v1 v2 H Q E) : t_shows K A E ⟨fun _ H' => Q .non H', Q, fun _ _ => False, fun _ _ => False⟩ [some v0, some v1, some v2, none, none, none] H := by
  obtain ⟨N, ws, hd, ok, hw, hz, h⟩ := h
  unfold t_shows
  wtm_at "s"
  rcases h with h | ⟨i, hk, fb, h⟩
  · exact ⟨_, _, rfl, N, _, rfl, hd, ok, .inl h⟩
  · refine ⟨_, _, rfl, N, _, rfl, hd, ok, .inr ⟨hk, ?_⟩⟩
    wtm_at "s"
    exact ⟨_, _, rfl, N, ws, hd, hw, hz, fun z => absurd fb (no_bad z), fun j fb2 => bad_one fb fb2 ▸ h⟩
abbrev sp_shows (K : PySem.W.Frag) (A : Ad) : Sp := fun vs H Q E => ∃ v0 v1 v2, vs = [v0, v1, v2] ∧ pr_shows K A v0 v1 v2 H Q E
theorem ok_shows (T : Txt K mg A) : FnOk P w K mg base (L2.CX P w) 4 A.a_shows A.d_shows ["net", "ways", "lines"] (sp_shows K A) := by
  refine T.F_shows.okX sc_shows (fun vs H Q E h => by obtain ⟨v0, v1, v2, rfl, _⟩ := h; rfl) (fun cdv A0 outer s H vs Q E hr h => ?_)
  obtain ⟨v0, v1, v2, rfl, h⟩ := h
  exact ⟨t_shows K A E, (pss_cons (ps_expr (pe_call (E := E) (ok_must_be_kind T) (hr.mono (by decide)) (by rfl) T.g_must_be_kind T.F_must_be_kind.kp T.b_must_be_kind .nil (passes_call (takes_of rfl rfl rfl rfl) (fun _ _ _ _ h => h)) (pa_cons (pv 0) (pa_cons pe_str pa_nil))))
      (pss_cons (ps_expr (pe_call (E := E) (ok_must_be_ways T) (hr.mono (by decide)) (by rfl) T.g_must_be_ways T.F_must_be_ways.kp T.b_must_be_ways .nil (passes_call (takes_of rfl rfl rfl rfl) (fun _ _ _ _ h => h)) (pa_cons (pv 0) (pa_cons (pv 1) pa_nil))))
      (pss_cons ps_never
      (pss_cons ps_never
      (pss_cons ps_never
      (pss_one ps_never)))))), pure_shows h⟩
theorem kept_same {H H' : Hp} {a D : Addr} (k : KeptAt H a D) (s : Same H H') : KeptAt H' a D := by
  obtain ⟨d, e, h⟩ := k
  refine ⟨d, s _ _ e, ?_⟩
  rcases h with h | ⟨dd, fs, h1, h2⟩
  · exact .inl h
  · exact .inr ⟨dd, fs, h1, s _ _ h2⟩


def pr_law_mix (K : PySem.W.Frag) (v0 v1 : V) (H : Hp) (Q : VK) (_ : XK) : Prop := ∃ x k : Int, v0 = .int x ∧ v1 = .int k ∧ 0 ≤ x ∧ x < 2147483629 ∧ 0 ≤ k ∧ k < 10000000 ∧ ∀ r, 0 ≤ r → r < 2147483587 → Q (.int r) H
def t_law_mix (K : PySem.W.Frag) : TS :=
  (tSeq (tAsg (tOp xMod (tOp xMul (tOp xAdd (tOp xAdd (tOp xMul (tVar 0) (tVar 0)) (tOp xMul (tVar 1) (tVar 0))) (tOp xMul (tOp xMul (tC (.int 7)) (tVar 1)) (tVar 1))) (tC (.int 1103515245))) (tC (.int 2147483629))) (gName 2))
    (tRet (tOp xMod (tOp xMul (tVar 2) (tVar 2)) (tC (.int 2147483587)))))
theorem pure_law_mix {v0 v1 : V} {H : Hp} {Q : VK} {E : XK} (h : pr_law_mix K v0 v1 H Q E) : t_law_mix K ⟨fun _ H' => Q .non H', Q, fun _ _ => False, fun _ _ => False⟩ [some v0, some v1, none] H := by
  obtain ⟨x, k, rfl, rfl, x0, x1, k0, k1, q⟩ := h
  unfold t_law_mix
  wtm_at "s"
  exact q _ (Int.emod_nonneg _ (by decide)) (Int.emod_lt_of_pos _ (by decide))
abbrev sp_law_mix (K : PySem.W.Frag) : Sp := fun vs H Q E => ∃ v0 v1, vs = [v0, v1] ∧ pr_law_mix K v0 v1 H Q E
theorem ok_law_mix (T : Txt K mg A) : FnOk P w K mg base CX0 1 A.a_law_mix A.d_law_mix ["_law_number", "_law_k"] (sp_law_mix K) := by
  refine T.F_law_mix.ok sc_law_mix (fun vs H Q E h => by obtain ⟨v0, v1, rfl, _⟩ := h; rfl) (fun cdv A0 outer s H vs Q E hr h => ?_)
  obtain ⟨v0, v1, rfl, h⟩ := h
  exact ⟨t_law_mix K, (pss_cons (ps_set (i := 2) sc_law_mix.nd rfl (Or.inl rfl) (pe_op op_mod (pe_op op_mul (pe_op op_add (pe_op op_add (pe_op op_mul (pv 0) (pv 0)) (pe_op op_mul (pv 1) (pv 0))) (pe_op op_mul (pe_op op_mul pe_int (pv 1)) (pv 1))) pe_int) pe_int))
      (pss_one (ps_ret (pe_op op_mod (pe_op op_mul (pv 2) (pv 2)) pe_int)))), pure_law_mix h⟩
def pr_law_cell_at (K : PySem.W.Frag) (v0 v1 : V) (H : Hp) (Q : VK) (_ : XK) : Prop := ∃ (a : Addr) (ns : List Int) (k : Int), v0 = .ref a ∧ v1 = .int k ∧ SqL K H a (ns.map V.int) ∧ 0 ≤ k ∧ ∀ x, Q (.int x) H
def t_law_cell_at (K : PySem.W.Frag) : TS :=
  (tSeq (tIfS (tTest (tOp xLt (tVar 1) (tCB (rLen K) (tCons (tVar 0) tNil)))) (tRet (tOp (rIxL K) (tVar 0) (tVar 1))) tNext)
    (tRet (tC (.int 0))))
theorem pure_law_cell_at {v0 v1 : V} {H : Hp} {Q : VK} {E : XK} (h : pr_law_cell_at K v0 v1 H Q E) : t_law_cell_at K ⟨fun _ H' => Q .non H', Q, fun _ _ => False, fun _ _ => False⟩ [some v0, some v1] H := by
  obtain ⟨a, ns, k, rfl, rfl, ha, k0, q⟩ := h
  unfold t_law_cell_at
  wtm_at "s"
  refine k_it (fun c => ?_) (fun c => ?_)
  · wtm_at "s"
    refine k_ixI ha k0 c ?_
    exact q _
  · wtm_at "s"
    exact q _
abbrev sp_law_cell_at (K : PySem.W.Frag) : Sp := fun vs H Q E => ∃ v0 v1, vs = [v0, v1] ∧ pr_law_cell_at K v0 v1 H Q E
theorem ok_law_cell_at (T : Txt K mg A) : FnOk P w K mg base CX0 1 A.a_law_cell_at A.d_law_cell_at ["_law_script", "_law_k"] (sp_law_cell_at K) := by
  refine T.F_law_cell_at.ok sc_law_cell_at (fun vs H Q E h => by obtain ⟨v0, v1, rfl, _⟩ := h; rfl) (fun cdv A0 outer s H vs Q E hr h => ?_)
  obtain ⟨v0, v1, rfl, h⟩ := h
  exact ⟨t_law_cell_at K, (pss_cons (ps_if (pt_cmpR op_lt (pv 1) (pe_callB q_len (by rfl) T.z_len (by decide +kernel) (pa_cons (pv 0) pa_nil)) (nomark _)) (pss_one (ps_ret (pe_ix ix_list (pv 0) (pv 1) (fun _ _ => rfl)))) pss_nil)
      (pss_one (ps_ret pe_int))), pure_law_cell_at h⟩
def pr_law_left (K : PySem.W.Frag) (v0 v1 : V) (H : Hp) (Q : VK) (_ : XK) : Prop := ∃ (a : Addr) (ns : List Int) (k : Int), v0 = .ref a ∧ v1 = .int k ∧ SqL K H a (ns.map V.int) ∧ 0 ≤ k ∧ ∀ p H', H p = none → Same H H' → Le H' p 0 → Q (.ref p) H'
def t_law_left (K : PySem.W.Frag) : TS :=
  (tSeq (tAsg (tCall (sp_law_cell_at K) [] E0 (tCons (tVar 0) (tCons (tVar 1) tNil))) (gName 2))
    (tSeq (tIfS (tTest (tOp xLt (tVar 2) (tOp xPow (tC (.int 10)) (tC (.int 18))))) (tRet (tLst (tCons (tOp xMod (tVar 2) (tC (.int 2147483629))) (tCons (tC (.int 0)) (tCons (tC (.int 0)) tNil))))) tNext)
    (tRet (tLst (tCons (tOp xSub (tVar 2) (tOp xPow (tC (.int 10)) (tC (.int 18)))) (tCons (tC (.int 1)) (tCons (tC (.int 0)) tNil)))))))
theorem pure_law_left {v0 v1 : V} {H : Hp} {Q : VK} {E : XK} (h : pr_law_left K v0 v1 H Q E) : t_law_left K ⟨fun _ H' => Q .non H', Q, fun _ _ => False, fun _ _ => False⟩ [some v0, some v1, none] H := by
  obtain ⟨a, ns, k, rfl, rfl, ha, k0, q⟩ := h
  unfold t_law_left
  wtm_at "s"
  refine ⟨_, _, rfl, a, ns, k, rfl, rfl, ha, k0, fun x => ?_⟩
  wtm_at "s"
  refine k_it (fun c => ?_) (fun c => ?_)
  · wtm_at "s"
    refine ⟨sz (by simp), fun p np => ?_⟩
    exact q p _ np (same_new np) ⟨⟨_, _, upd_same, fun _ => ⟨Int.emod_nonneg _ (by decide), Int.emod_lt_of_pos _ (by decide)⟩⟩, by decide⟩
  · wtm_at "s"
    refine ⟨sz (by simp), fun p np => ?_⟩
    exact q p _ np (same_new np) ⟨⟨_, _, upd_same, fun z => absurd z (by decide)⟩, by decide⟩
abbrev sp_law_left (K : PySem.W.Frag) : Sp := fun vs H Q E => ∃ v0 v1, vs = [v0, v1] ∧ pr_law_left K v0 v1 H Q E
theorem ok_law_left (T : Txt K mg A) : FnOk P w K mg base CX0 2 A.a_law_left A.d_law_left ["_law_script", "_law_k"] (sp_law_left K) := by
  refine T.F_law_left.ok sc_law_left (fun vs H Q E h => by obtain ⟨v0, v1, rfl, _⟩ := h; rfl) (fun cdv A0 outer s H vs Q E hr h => ?_)
  obtain ⟨v0, v1, rfl, h⟩ := h
  exact ⟨t_law_left K, (pss_cons (ps_set (i := 2) sc_law_left.nd rfl (Or.inl rfl) (pe_call (ok_law_cell_at T) (hr.mono (by decide)) (by rfl) T.g_law_cell_at T.F_law_cell_at.kp T.b_law_cell_at .nil pass0 (pa_cons (pv 0) (pa_cons (pv 1) pa_nil))))
      (pss_cons (ps_if (pt_cmpR op_lt (pv 2) (pe_op op_pow pe_int pe_int) (nomark _)) (pss_one (ps_ret (pe_lst (pa_cons (pe_op op_mod (pv 2) pe_int) (pa_cons pe_int (pa_cons pe_int pa_nil)))))) pss_nil)
      (pss_one (ps_ret (pe_lst (pa_cons (pe_op op_sub (pv 2) (pe_op op_pow pe_int pe_int)) (pa_cons pe_int (pa_cons pe_int pa_nil)))))))), pure_law_left h⟩
def pr_law_draw (K : PySem.W.Frag) (v0 v1 : V) (H : Hp) (Q : VK) (_ : XK) : Prop := ∃ (pu : Addr) (k m : Int), v0 = .ref pu ∧ v1 = .int m ∧ Le H pu k ∧ k < 1000000 ∧ 0 < m ∧ m < 2 ^ 200 ∧ ∀ r H', 0 ≤ r → r < m → Le H' pu (k + 1) → Same (hid [pu] H) (hid [pu] H') → Q (.int r) H'
def t_law_draw (K : PySem.W.Frag) : TS :=
  (tSeq (tAsg (tOp xAdd (tOp (rIxL K) (tVar 0) (tC (.int 2))) (tC (.int 1))) (gSub (tVar 0) (tC (.int 2)) rSetL))
    (tSeq (tIfS (tTest (tOp rEq (tOp (rIxL K) (tVar 0) (tC (.int 1))) (tC (.int 0)))) (tSeq (tAsg (tCall (sp_law_mix K) [] E0 (tCons (tOp (rIxL K) (tVar 0) (tC (.int 0))) (tCons (tOp (rIxL K) (tVar 0) (tC (.int 2))) tNil))) (gName 2))
    (tSeq (tIfS (tTest (tOp xGt (tVar 1) (tOp xPow (tC (.int 10)) (tC (.int 9))))) (tRet (tOp xMod (tOp xMul (tVar 2) (tOp xAdd (tOp xPow (tCall (sp_law_mix K) [] E0 (tCons (tOp (rIxL K) (tVar 0) (tC (.int 0))) (tCons (tOp xAdd (tOp (rIxL K) (tVar 0) (tC (.int 2))) (tC (.int 500))) tNil))) (tC (.int 3))) (tC (.int 1)))) (tVar 1))) tNext)
    (tRet (tOp xMod (tOp xMod (tOp xMul (tVar 2) (tOp xAdd (tVar 2) (tC (.int 2)))) (tC (.int 2147483579))) (tVar 1))))) tNext)
    (tSeq (tAsg (tOp xMod (tOp (rIxL K) (tVar 0) (tC (.int 0))) (tVar 1)) (gName 3))
    (tSeq (tAsg (tOp xDivW (tOp (rIxL K) (tVar 0) (tC (.int 0))) (tVar 1)) (gSub (tVar 0) (tC (.int 0)) rSetL))
    (tRet (tVar 3))))))
theorem pure_law_draw {v0 v1 : V} {H : Hp} {Q : VK} {E : XK} (h : pr_law_draw K v0 v1 H Q E) : t_law_draw K ⟨fun _ H' => Q .non H', Q, fun _ _ => False, fun _ _ => False⟩ [some v0, some v1, none, none] H := by
  obtain ⟨pu, k, m, rfl, rfl, hL, k1, m0, m1, q⟩ := h
  obtain ⟨⟨x, f, hp, hx⟩, k0⟩ := hL
  unfold t_law_draw
  wtm_at "s"
  refine k_ixL (sl hp) rfl ?_
  wtm_at "s"
  refine k_setL hp (j := 2) rfl ?_
  have e1 : upd H pu (.lst [.int x, .int f, .int (k + 1)]) pu = some (.lst [.int x, .int f, .int (k + 1)]) := upd_same
  have S1 : Same (hid [pu] H) (hid [pu] (upd H pu (.lst [.int x, .int f, .int (k + 1)]))) := same_hid_upd (Same.refl _) (by simp)
  rw [show [V.int x, V.int f, V.int k].set 2 (V.int (k + 1)) = [.int x, .int f, .int (k + 1)] from rfl]
  generalize upd H pu (.lst [.int x, .int f, .int (k + 1)]) = H1 at e1 S1 ⊢
  wtm_at "s"
  refine k_ixL (sl e1) rfl ?_
  wtm_at "s"
  refine k_it (fun c => ?_) (fun c => ?_)
  · obtain ⟨x0, x1⟩ := hx c
    have L1 : Le H1 pu (k + 1) := ⟨⟨x, f, e1, hx⟩, by omega⟩
    wtm_at "s"
    refine k_ixL (sl e1) rfl ?_
    wtm_at "s"
    refine k_ixL (sl e1) rfl ?_
    wtm_at "s"
    refine ⟨_, _, rfl, x, k + 1, rfl, rfl, x0, x1, by omega, by omega, fun r r0 r1 => ?_⟩
    wtm_at "s"
    refine k_it (fun c2 => ?_) (fun c2 => ?_)
    · wtm_at "s"
      refine k_ixL (sl e1) rfl ?_
      wtm_at "s"
      refine k_ixL (sl e1) rfl ?_
      wtm_at "s"
      refine ⟨_, _, rfl, x, k + 1 + 500, rfl, rfl, x0, x1, by omega, by omega, fun r2 r20 r21 => ?_⟩
      wtm_at "s"
      refine k_pow ⟨by decide, by decide, by omega⟩ ?_
      wtm_at "s"
      exact q _ _ (Int.emod_nonneg _ (by omega)) (Int.emod_lt_of_pos _ m0) L1 S1
    · wtm_at "s"
      exact q _ _ (Int.emod_nonneg _ (by omega)) (Int.emod_lt_of_pos _ m0) L1 S1
  · wtm_at "s"
    refine k_ixL (sl e1) rfl ?_
    wtm_at "s"
    refine k_ixL (sl e1) rfl ?_
    wtm_at "s"
    refine k_divW (wide_div m0 (b := 201) (by omega) (by decide) (by decide)) ?_
    wtm_at "s"
    refine k_setL e1 (j := 0) rfl ?_
    wtm_at "s"
    exact q _ _ (Int.emod_nonneg _ (by omega)) (Int.emod_lt_of_pos _ m0) ⟨⟨x / m, f, upd_same, fun z => absurd z c⟩, by omega⟩ (same_hid_upd S1 (by simp))
abbrev sp_law_draw (K : PySem.W.Frag) : Sp := fun vs H Q E => ∃ v0 v1, vs = [v0, v1] ∧ pr_law_draw K v0 v1 H Q E
theorem ok_law_draw (T : Txt K mg A) : FnOk P w K mg base CX0 2 A.a_law_draw A.d_law_draw ["_law_left_here", "_law_base"] (sp_law_draw K) := by
  refine T.F_law_draw.ok sc_law_draw (fun vs H Q E h => by obtain ⟨v0, v1, rfl, _⟩ := h; rfl) (fun cdv A0 outer s H vs Q E hr h => ?_)
  obtain ⟨v0, v1, rfl, h⟩ := h
  exact ⟨t_law_draw K, (pss_cons (ps_asg (pe_op op_add (pe_ix ix_list (pv 0) pe_int (fun _ _ => rfl)) pe_int) (pg_sub (pv 0) pe_int set_list))
      (pss_cons (ps_if (pt_cmpR op_eq (pe_ix ix_list (pv 0) pe_int (fun _ _ => rfl)) pe_int (nomark _)) (pss_cons (ps_set (i := 2) sc_law_draw.nd rfl (Or.inl rfl) (pe_call (ok_law_mix T) (hr.mono (by decide)) (by rfl) T.g_law_mix T.F_law_mix.kp T.b_law_mix .nil pass0 (pa_cons (pe_ix ix_list (pv 0) pe_int (fun _ _ => rfl)) (pa_cons (pe_ix ix_list (pv 0) pe_int (fun _ _ => rfl)) pa_nil))))
      (pss_cons (ps_if (pt_cmpR op_gt (pv 1) (pe_op op_pow pe_int pe_int) (nomark _)) (pss_one (ps_ret (pe_op op_mod (pe_op op_mul (pv 2) (pe_op op_add (pe_op op_pow (pe_call (ok_law_mix T) (hr.mono (by decide)) (by rfl) T.g_law_mix T.F_law_mix.kp T.b_law_mix .nil pass0 (pa_cons (pe_ix ix_list (pv 0) pe_int (fun _ _ => rfl)) (pa_cons (pe_op op_add (pe_ix ix_list (pv 0) pe_int (fun _ _ => rfl)) pe_int) pa_nil))) pe_int) pe_int)) (pv 1)))) pss_nil)
      (pss_one (ps_ret (pe_op op_mod (pe_op op_mod (pe_op op_mul (pv 2) (pe_op op_add (pv 2) pe_int)) pe_int) (pv 1)))))) pss_nil)
      (pss_cons (ps_set (i := 3) sc_law_draw.nd rfl (Or.inl rfl) (pe_op op_mod (pe_ix ix_list (pv 0) pe_int (fun _ _ => rfl)) (pv 1)))
      (pss_cons (ps_asg (pe_op op_fdivW (pe_ix ix_list (pv 0) pe_int (fun _ _ => rfl)) (pv 1)) (pg_sub (pv 0) pe_int set_list))
      (pss_one (ps_ret (pv 3))))))), pure_law_draw h⟩
def pr_law_way (K : PySem.W.Frag) (v0 v1 : V) (H : Hp) (Q : VK) (_ : XK) : Prop := ∃ (pu : Addr) (k m : Int), v0 = .ref pu ∧ v1 = .int m ∧ Le H pu k ∧ k < 900000 ∧ 2 ≤ m ∧ m < 2 ^ 100 ∧
  ∀ p a b H', H p = none → p ∉ [pu] → Le H' pu (k + 2) → Same (hid [pu] H) (hid [pu] H') → H' p = some (.tup [.int a, .int b]) → a ≠ b → 0 ≤ a → a < m → 0 ≤ b → b < m → Q (.ref p) H'
def t_law_way (K : PySem.W.Frag) : TS :=
  (tSeq (tAsg (tCall (sp_law_draw K) [] E0 (tCons (tVar 0) (tCons (tVar 1) tNil))) (gName 2))
    (tSeq (tAsg (tCall (sp_law_draw K) [] E0 (tCons (tVar 0) (tCons (tOp xSub (tVar 1) (tC (.int 1))) tNil))) (gName 3))
    (tRet (tTup (tCons (tVar 2) (tCons (tOp xAdd (tVar 3) (tCB rIntOf (tCons (tOp xGe (tVar 3) (tVar 2)) tNil))) tNil))))))
theorem pure_law_way {v0 v1 : V} {H : Hp} {Q : VK} {E : XK} (h : pr_law_way K v0 v1 H Q E) : t_law_way K ⟨fun _ H' => Q .non H', Q, fun _ _ => False, fun _ _ => False⟩ [some v0, some v1, none, none] H := by
  obtain ⟨pu, k, m, rfl, rfl, hL, k1, m0, m1, q⟩ := h
  unfold t_law_way
  wtm_at "s"
  refine ⟨_, _, rfl, pu, k, m, rfl, rfl, hL, by omega, by omega, by omega, fun r H1 r0 r1 L1 S1 => ?_⟩
  wtm_at "s"
  refine ⟨_, _, rfl, pu, k + 1, m - 1, rfl, rfl, L1, by omega, by omega, by omega, fun r2 H2 r20 r21 L2 S2 => ?_⟩
  wtm_at "s"
  refine ⟨sz (by simp), fun p np => ?_⟩
  have np' := L2.fresh np
  have S3 := S1.trans S2
  have e : (if decide (r ≤ r2) = true then (1 : Int) else 0) = if r ≤ r2 then 1 else 0 := by simp
  refine q p r _ _ (fresh_hid S3 np np') np' (show Le _ pu (k + 2) from (show k + 1 + 1 = k + 2 by omega) ▸ L2.upd np') (S3.trans (same_hid_new np)) upd_same ?_ r0 r1 ?_ ?_
  all_goals rw [e]; split <;> omega
abbrev sp_law_way (K : PySem.W.Frag) : Sp := fun vs H Q E => ∃ v0 v1, vs = [v0, v1] ∧ pr_law_way K v0 v1 H Q E
theorem ok_law_way (T : Txt K mg A) : FnOk P w K mg base CX0 3 A.a_law_way A.d_law_way ["_law_left_here", "_law_many"] (sp_law_way K) := by
  refine T.F_law_way.ok sc_law_way (fun vs H Q E h => by obtain ⟨v0, v1, rfl, _⟩ := h; rfl) (fun cdv A0 outer s H vs Q E hr h => ?_)
  obtain ⟨v0, v1, rfl, h⟩ := h
  exact ⟨t_law_way K, (pss_cons (ps_set (i := 2) sc_law_way.nd rfl (Or.inl rfl) (pe_call (ok_law_draw T) (hr.mono (by decide)) (by rfl) T.g_law_draw T.F_law_draw.kp T.b_law_draw .nil pass0 (pa_cons (pv 0) (pa_cons (pv 1) pa_nil))))
      (pss_cons (ps_set (i := 3) sc_law_way.nd rfl (Or.inl rfl) (pe_call (ok_law_draw T) (hr.mono (by decide)) (by rfl) T.g_law_draw T.F_law_draw.kp T.b_law_draw .nil pass0 (pa_cons (pv 0) (pa_cons (pe_op op_sub (pv 1) pe_int) pa_nil))))
      (pss_one (ps_ret (pe_tup (pa_cons (pv 2) (pa_cons (pe_op op_add (pv 3) (pe_callTy q_intB (by rfl) T.z_int (by decide +kernel) (pa_cons (pe_cmpR op_ge (pv 3) (pv 2) (nomark _)) pa_nil))) pa_nil))))))), pure_law_way h⟩


def WayIn (m : Int) (w : Int × Int) : Prop := w.1 ≠ w.2 ∧ 0 ≤ w.1 ∧ w.1 < m ∧ 0 ≤ w.2 ∧ w.2 < m
/-- a list of drawn ways -/
theorem lc_ways {σ : L2.St} {vs : List Nat} {i j l : Nat} {pu : Addr} {m kk lo : Int} {n : Nat} {H1 : Hp} {QD : Addr → Hp → Prop}
    (hi : ∀ x, ((wipe σ vs).set l (some x))[i]? = some (some (.ref pu))) (hj : ∀ x, ((wipe σ vs).set l (some x))[j]? = some (some (.int m))) (hwp : ∀ x, wipe ((wipe σ vs).set l (some x)) vs = wipe σ vs)
    (L : Le H1 pu kk) (hk : kk + 2 * n < 900000) (m0 : 2 ≤ m) (m1 : m < 2 ^ 100) (hn : n ≤ 10000)
    (h : ∀ D ys ws H', H1 D = none → D ∉ [pu] → Le H' pu (kk + 2 * n) → Same (hid [pu] H1) (hid [pu] H') → H' D = some (.lst ys) → DpAll K (hid [pu, D] H') ys (List.map dPair ws) → ws.length = n → (∀ w ∈ ws, WayIn m w) → QD D H') :
    ∀ D, H1 D = none → ∃ W : Nat → Nat → Hp → Prop, (∃ m, W 0 m (upd H1 D (.lst []))) ∧ ∀ t m' H, W t m' H →
      ((Itr lo n).stop t H ∧ QD D H) ∨ ((Itr lo n).go t H ∧ ∃ Nx : Hp → Prop, (∀ H', Nx H' → ∃ m'', m'' < m' ∧ W (t + 1) m'' H') ∧ ∀ x H', (Itr lo n).yld t H x H' → gName l x (wipe σ vs) H' fun σ2 H2 => wipe σ2 vs = wipe σ vs ∧ tYes σ2 H2 fun b H3 =>
        if b = true then tCall (sp_law_way K) [] E0 (tCons (tVar i) (tCons (tVar j) tNil)) σ2 H3 fun y H4 => ∃ acc, H4 D = some (.lst acc) ∧ acc.length < sizeLine ∧ Nx (upd H4 D (.lst (acc ++ [y]))) else Nx H3) := by
  intro D nD
  have nD' := L.fresh nD
  have fr : hid [pu] H1 D = none := by rw [hid_ne nD']; exact nD
  refine lc_range (fun t H => Le H pu (kk + 2 * t) ∧ Same (hid [pu] H1) (hid [pu] H) ∧ ∃ ys ws, H D = some (.lst ys) ∧ DpAll K (hid [pu, D] H) ys (List.map dPair ws) ∧ ws.length = t ∧ ∀ w ∈ ws, WayIn m w) ⟨by simpa using L.upd nD', same_hid_new nD, [], [], upd_same, .nil, rfl, fun _ z => by cases z⟩ ?_ ?_
  · rintro t H ht ⟨Lt, St, ys, ws, hD, hys, hl, hok⟩
    have ly := dpa_len hys
    rw [List.length_map] at ly
    refine ⟨hwp _, ?_⟩
    refine k_yes (iteT (k_call (k_cons (k_var (hi _) (k_cons (k_var (hj _) (k_nil ?_)))))))
    refine ⟨_, _, rfl, pu, kk + 2 * t, m, rfl, rfl, Lt, by omega, m0, m1, fun p a b H' np np' L' S' hp ne a0 a1 b0 b1 => ?_⟩
    have pd : p ≠ D := fun e => by rw [e, hD] at np; cases np
    refine ⟨ys, keeps S' hD nD', szl (by omega), ?_, ?_, ys ++ [.ref p], ws ++ [(a, b)], upd_same, ?_, by simp [hl], fun w hw => ?_⟩
    · have e : kk + 2 * ((t + 1 : Nat) : Int) = kk + 2 * t + 2 := by omega
      rw [e]; exact L'.upd nD'
    · exact same_hid_mut (St.trans S') fr
    · rw [hid_upd (by simp), List.map_append]
      refine dpa_app (dpa_same (hid_more S' (by simp)) hys) (.cons (dp_of_pair (stp ?_)) .nil)
      rw [hid_ne (not_in2 (fun e => np' (by rw [e]; simp)) pd)]; exact hp
    · rcases List.mem_append.mp hw with hw | hw
      · exact hok w hw
      · have e : w = (a, b) := by simpa using hw
        subst e
        exact ⟨ne, a0, a1, b0, b1⟩
  · rintro H ⟨Lt, St, ys, ws, hD, hys, hl, hok⟩
    exact h D ys ws H nD nD' Lt St hD hys hl hok
/-- draw(left, [..][draw(left, n)]) -/
theorem rd_pick {σ : L2.St} {i : Nat} {pu : Addr} {kk : Int} {cs : List Int} {ta : TA} {hi : Int} {H : Hp} {Q : VK} (hv : σ[i]? = some (some (.ref pu))) (L : Le H pu kk) (hk : kk < 900000)
    (hta : ∀ (H : Hp) (R : List V → Hp → Prop), R (cs.map V.int) H → ta σ H R) (hc : cs.length ≤ 100) (c0 : 0 < cs.length) (hb : ∀ c ∈ cs, 1 ≤ c ∧ c ≤ hi) (hh : hi < 2 ^ 100)
    (q : ∀ d H', 0 ≤ d → d < hi → Le H' pu (kk + 2) → Same (hid [pu] H) (hid [pu] H') → Q (.int d) H') :
    tCall (sp_law_draw K) [] E0 (tCons (tVar i) (tCons (tOp (rIxL K) (tLst ta) (tCall (sp_law_draw K) [] E0 (tCons (tVar i) (tCons (tC (.int cs.length)) tNil)))) tNil)) σ H Q := by
  refine k_call (k_cons (k_var hv (k_cons (k_op (k_lst (hta _ _ ⟨sz (by rw [List.length_map]; omega), fun dl ndl => ?_⟩))))))
  refine k_call (k_cons (k_var hv (k_cons (k_c (k_nil ?_)))))
  have ndl' := L.fresh ndl
  refine ⟨_, _, rfl, pu, kk, cs.length, rfl, rfl, L.upd ndl', by omega, by omega, by omega, fun r H2 r0 r1 L2 S2 => ?_⟩
  refine k_ixI (sl (keeps S2 upd_same ndl')) r0 r1 ?_
  have hm := hb _ (getD_memI r0 r1)
  refine k_nil ?_
  refine ⟨_, _, rfl, pu, kk + 1, _, rfl, rfl, L2, by omega, by omega, by omega, fun d H3 d0 d1 L3 S3 => ?_⟩
  refine q d H3 d0 (by omega) ?_ ((same_hid_new ndl).trans (S2.trans S3))
  rw [show kk + 2 = kk + 1 + 1 by omega]; exact L3
def pr_law_line (K : PySem.W.Frag) (v0 : V) (H : Hp) (Q : VK) (_ : XK) : Prop := ∃ (pu : Addr) (k : Int), v0 = .ref pu ∧ Le H pu k ∧ k < 900000 ∧
  ∀ p n H', H p = none → p ∉ [pu] → Le H' pu (k + 2) → Same (hid [pu] H) (hid [pu] H') → hid [pu] H' p = some (.tup [.str (Str.ofString "line"), .int n]) → 2 ≤ n → n ≤ 60 → Q (.ref p) H'
def t_law_line (K : PySem.W.Frag) : TS :=
  (tRet (tTup (tCons (tC (.str (Str.ofString "line"))) (tCons (tOp xAdd (tC (.int 2)) (tCall (sp_law_draw K) [] E0 (tCons (tVar 0) (tCons (tOp (rIxL K) (tLst (tCons (tC (.int 5)) (tCons (tC (.int 12)) (tCons (tC (.int 59)) tNil)))) (tCall (sp_law_draw K) [] E0 (tCons (tVar 0) (tCons (tC (.int 3)) tNil)))) tNil)))) tNil))))
theorem pure_law_line {v0 : V} {H : Hp} {Q : VK} {E : XK} (h : pr_law_line K v0 H Q E) : t_law_line K ⟨fun _ H' => Q .non H', Q, fun _ _ => False, fun _ _ => False⟩ [some v0] H := by
  obtain ⟨pu, k, rfl, L, hk, q⟩ := h
  unfold t_law_line
  refine k_ret (k_tup (k_cons (k_c (k_cons (k_op (k_c ?_))))))
  refine rd_pick (cs := [5, 12, 59]) (hi := 59) rfl L (by omega) (fun H R h => by wtm_at "s"; exact h) (by decide) (by decide) (by decide) (by decide) (fun d H1 d0 d1 L1 S1 => ?_)
  wtm_at "s"
  exact ⟨sz (by simp), fun p np => q p _ _ (fresh_hid S1 np (L1.fresh np)) (L1.fresh np) (L1.same (same_new np)) (S1.trans (hid_mono (same_new np))) (L1.at np upd_same) (by omega) (by omega)⟩
abbrev sp_law_line (K : PySem.W.Frag) : Sp := fun vs H Q E => ∃ v0, vs = [v0] ∧ pr_law_line K v0 H Q E
theorem ok_law_line (T : Txt K mg A) : FnOk P w K mg base CX0 3 A.a_law_line A.d_law_line ["_law_left_here"] (sp_law_line K) := by
  refine T.F_law_line.ok sc_law_line (fun vs H Q E h => by obtain ⟨v0, rfl, _⟩ := h; rfl) (fun cdv A0 outer s H vs Q E hr h => ?_)
  obtain ⟨v0, rfl, h⟩ := h
  exact ⟨t_law_line K, (pss_one (ps_ret (pe_tup (pa_cons pe_str (pa_cons (pe_op op_add pe_int (pe_call (ok_law_draw T) (hr.mono (by decide)) (by rfl) T.g_law_draw T.F_law_draw.kp T.b_law_draw .nil pass0 (pa_cons (pv 0) (pa_cons (pe_ix ix_list (pe_lst (pa_cons pe_int (pa_cons pe_int (pa_cons pe_int pa_nil)))) (pe_call (ok_law_draw T) (hr.mono (by decide)) (by rfl) T.g_law_draw T.F_law_draw.kp T.b_law_draw .nil pass0 (pa_cons (pv 0) (pa_cons pe_int pa_nil))) (fun _ _ => rfl)) pa_nil)))) pa_nil))))), pure_law_line h⟩
def pr_law_short_way (K : PySem.W.Frag) (v0 v1 : V) (H : Hp) (Q : VK) (_ : XK) : Prop := ∃ (pu : Addr) (k m : Int), v0 = .ref pu ∧ v1 = .int m ∧ Le H pu k ∧ k < 900000 ∧ 2 ≤ m ∧ m < 2 ^ 100 ∧
  ∀ p a b H', H p = none → p ∉ [pu] → Le H' pu (k + 3) → Same (hid [pu] H) (hid [pu] H') → H' p = some (.tup [.int a, .int b]) → a ≠ b → 0 ≤ a → a < m → 0 ≤ b → b < m → Q (.ref p) H'
def t_law_short_way (K : PySem.W.Frag) : TS :=
  (tSeq (tAsg (tCall (sp_law_draw K) [] E0 (tCons (tVar 0) (tCons (tOp xSub (tVar 1) (tC (.int 1))) tNil))) (gName 2))
    (tSeq (tAsg (tOp xAdd (tOp xAdd (tVar 2) (tC (.int 1))) (tCall (sp_law_draw K) [] E0 (tCons (tVar 0) (tCons (tCB rMin2 (tCons (tC (.int 4)) (tCons (tOp xSub (tOp xSub (tVar 1) (tC (.int 1))) (tVar 2)) tNil))) tNil)))) (gName 3))
    (tRet (tOp (rIxL K) (tLst (tCons (tTup (tCons (tVar 2) (tCons (tVar 3) tNil))) (tCons (tTup (tCons (tVar 3) (tCons (tVar 2) tNil))) tNil))) (tCall (sp_law_draw K) [] E0 (tCons (tVar 0) (tCons (tC (.int 2)) tNil)))))))
theorem pure_law_short_way {v0 v1 : V} {H : Hp} {Q : VK} {E : XK} (h : pr_law_short_way K v0 v1 H Q E) : t_law_short_way K ⟨fun _ H' => Q .non H', Q, fun _ _ => False, fun _ _ => False⟩ [some v0, some v1, none, none] H := by
  obtain ⟨pu, k, m, rfl, rfl, L, hk, m0, m1, q⟩ := h
  unfold t_law_short_way
  wtm_at "s"
  refine ⟨_, _, rfl, pu, k, m - 1, rfl, rfl, L, by omega, by omega, by omega, fun a H1 a0 a1 L1 S1 => ?_⟩
  wtm_at "s"
  refine ⟨_, _, rfl, pu, k + 1, _, rfl, rfl, L1, by omega, by split <;> omega, by split <;> omega, fun c H2 c0 c1 L2 S2 => ?_⟩
  have c2 : c < m - 1 - a := by split at c1 <;> omega
  clear c1
  wtm_at "s"
  refine kTp L2 (by simp) (fun t1 H3 n1 s3 e1 => ?_)
  wtm_at "s"
  refine kTp (L2.same s3) (by simp) (fun t2 H4 n2 s4 e2 => ?_)
  wtm_at "s"
  refine kLp ((L2.same s3).same s4) (by simp) (fun t3 H5 n3 s5 e3 => ?_)
  wtm_at "s"
  refine ⟨_, _, rfl, pu, k + 1 + 1, 2, rfl, rfl, ((L2.same s3).same s4).same s5, by omega, by decide, by decide, fun r H6 r0 r1 L6 S6 => ?_⟩
  have L6' : Le H6 pu (k + 3) := by rw [show k + 3 = k + 1 + 1 + 1 by omega]; exact L6
  have S : Same (hid [pu] H) (hid [pu] H6) := by wtm_at "sm"
  have S2' : Same (hid [pu] H) (hid [pu] H2) := S1.trans S2
  have S3' : Same (hid [pu] H) (hid [pu] H3) := S2'.trans (hid_mono s3)
  have g1 : H6 t1 = some (.tup [.int a, .int (a + 1 + c)]) := at_same e1 (((hid_mono s4).trans (hid_mono s5)).trans (S6.trans (hid_same _ _)))
  have g2 : H6 t2 = some (.tup [.int (a + 1 + c), .int a]) := at_same e2 ((hid_mono s5).trans (S6.trans (hid_same _ _)))
  have g3 : H6 t3 = some (.lst [.ref t1, .ref t2]) := at_same e3 (S6.trans (hid_same _ _))
  have hc : r = 0 ∨ r = 1 := by omega
  rcases hc with rfl | rfl
  · refine k_ixL (sl g3) (v := .ref t1) rfl ?_
    exact q t1 _ _ H6 (fresh_hid S2' n1 (L2.fresh n1)) (L2.fresh n1) L6' S g1 (by omega) (by omega) (by omega) (by omega) (by omega)
  · refine k_ixL (sl g3) (v := .ref t2) rfl ?_
    exact q t2 _ _ H6 (fresh_hid S3' n2 ((L2.same s3).fresh n2)) ((L2.same s3).fresh n2) L6' S g2 (by omega) (by omega) (by omega) (by omega) (by omega)
abbrev sp_law_short_way (K : PySem.W.Frag) : Sp := fun vs H Q E => ∃ v0 v1, vs = [v0, v1] ∧ pr_law_short_way K v0 v1 H Q E
theorem ok_law_short_way (T : Txt K mg A) : FnOk P w K mg base CX0 3 A.a_law_short_way A.d_law_short_way ["_law_left_here", "_law_many"] (sp_law_short_way K) := by
  refine T.F_law_short_way.ok sc_law_short_way (fun vs H Q E h => by obtain ⟨v0, v1, rfl, _⟩ := h; rfl) (fun cdv A0 outer s H vs Q E hr h => ?_)
  obtain ⟨v0, v1, rfl, h⟩ := h
  exact ⟨t_law_short_way K, (pss_cons (ps_set (i := 2) sc_law_short_way.nd rfl (Or.inl rfl) (pe_call (ok_law_draw T) (hr.mono (by decide)) (by rfl) T.g_law_draw T.F_law_draw.kp T.b_law_draw .nil pass0 (pa_cons (pv 0) (pa_cons (pe_op op_sub (pv 1) pe_int) pa_nil))))
      (pss_cons (ps_set (i := 3) sc_law_short_way.nd rfl (Or.inl rfl) (pe_op op_add (pe_op op_add (pv 2) pe_int) (pe_call (ok_law_draw T) (hr.mono (by decide)) (by rfl) T.g_law_draw T.F_law_draw.kp T.b_law_draw .nil pass0 (pa_cons (pv 0) (pa_cons (pe_callB (q_min2 (by rfl)) (by rfl) T.z_min (by decide +kernel) (pa_cons pe_int (pa_cons (pe_op op_sub (pe_op op_sub (pv 1) pe_int) (pv 2)) pa_nil))) pa_nil)))))
      (pss_one (ps_ret (pe_ix ix_list (pe_lst (pa_cons (pe_tup (pa_cons (pv 2) (pa_cons (pv 3) pa_nil))) (pa_cons (pe_tup (pa_cons (pv 3) (pa_cons (pv 2) pa_nil))) pa_nil))) (pe_call (ok_law_draw T) (hr.mono (by decide)) (by rfl) T.g_law_draw T.F_law_draw.kp T.b_law_draw .nil pass0 (pa_cons (pv 0) (pa_cons pe_int pa_nil))) (fun _ _ => rfl)))))), pure_law_short_way h⟩
def pr_law_ways (K : PySem.W.Frag) (v0 v1 : V) (H : Hp) (Q : VK) (_ : XK) : Prop := ∃ (pu : Addr) (k m : Int), v0 = .ref pu ∧ v1 = .int m ∧ Le H pu k ∧ k < 800000 ∧ 2 ≤ m ∧ m < 2 ^ 100 ∧
  ∀ D ys ws kk H', H D = none → D ∉ [pu] → Le H' pu kk → kk ≤ k + 200 → Same (hid [pu] H) (hid [pu] H') → H' D = some (.lst ys) → DpAll K (hid [pu, D] H') ys (List.map dPair ws) → ws.length ≤ 40 → (∀ w ∈ ws, WayIn m w) → Q (.ref D) H'
def t_law_ways (K : PySem.W.Frag) : TS :=
  (tSeq (tAsg (tLst tNil) (gName 2))
    (tSeq (tFor (iRng1 (tCons (tCall (sp_law_draw K) [] E0 (tCons (tVar 0) (tCons (tOp (rIxL K) (tLst (tCons (tC (.int 6)) (tCons (tC (.int 16)) (tCons (tC (.int 41)) tNil)))) (tCall (sp_law_draw K) [] E0 (tCons (tVar 0) (tCons (tC (.int 3)) tNil)))) tNil))) tNil)) (gName 3)
      (tIfS (tTest (tOp rEq (tCall (sp_law_draw K) [] E0 (tCons (tVar 0) (tCons (tC (.int 2)) tNil))) (tC (.int 0)))) (tDrop (tBM K "list" rAppend (tVar 2) (tCons (tCall (sp_law_way K) [] E0 (tCons (tVar 0) (tCons (tVar 1) tNil))) tNil))) (tDrop (tBM K "list" rAppend (tVar 2) (tCons (tCall (sp_law_short_way K) [] E0 (tCons (tVar 0) (tCons (tVar 1) tNil))) tNil)))))
    (tRet (tVar 2))))
theorem pure_law_ways {v0 v1 : V} {H : Hp} {Q : VK} {E : XK} (h : pr_law_ways K v0 v1 H Q E) : t_law_ways K ⟨fun _ H' => Q .non H', Q, fun _ _ => False, fun _ _ => False⟩ [some v0, some v1, none, none] H := by
  obtain ⟨pu, k, m, rfl, rfl, L, hk, m0, m1, q⟩ := h
  unfold t_law_ways
  wtm_at "s"
  refine kL (by simp) (fun D H1 nD s1 e1 => ?_)
  have nD' := L.fresh nD
  have L1 := L.same s1
  have fr : hid [pu] H D = none := by rw [hid_ne nD']; exact nD
  refine k_gname (k_seq (k_for (k_iRng1 (k_cons ?_))))
  refine rd_pick (cs := [6, 16, 41]) (hi := 41) rfl L1 (by omega) (fun H R h => by wtm_at "s"; exact h) (by decide) (by decide) (by decide) (by decide) (fun c H2 c0 c1 L2 S2 => ?_)
  have e2 := keeps S2 e1 nD'
  have S02 : Same (hid [pu] H) (hid [pu] H2) := (hid_mono s1).trans S2
  wtm_at "s"
  refine forR (fun i σ' H' => ∃ ys ws kk k3, σ' = [some (.ref pu), some (.int m), some (.ref D), k3] ∧ Le H' pu kk ∧ kk ≤ k + 2 + 4 * i ∧ Same (hid [pu] H) (hid [pu] H') ∧ H' D = some (.lst ys) ∧ DpAll K (hid [pu, D] H') ys (List.map dPair ws) ∧ ws.length = i ∧ ∀ w ∈ ws, WayIn m w)
    ⟨[], [], _, _, rfl, L2, by omega, S02, e2, .nil, rfl, fun _ z => by cases z⟩ ?_ ?_
  · rintro i σ' H3 hi ⟨ys, ws, kk, k3, rfl, L3, hkk, S3, hD, hys, hl, hok⟩
    have ly := dpa_len hys
    rw [List.length_map] at ly
    have fin : ∀ p x y kk' H4, H3 p = none → p ∉ [pu] → Le H4 pu kk' → kk' ≤ kk + 4 → Same (hid [pu] H3) (hid [pu] H4) → H4 p = some (.tup [.int x, .int y]) → WayIn m (x, y) →
        (Le (upd H4 D (.lst (ys ++ [.ref p]))) pu kk' ∧ kk' ≤ k + 2 + 4 * ((i + 1 : Nat) : Int) ∧ Same (hid [pu] H) (hid [pu] (upd H4 D (.lst (ys ++ [.ref p])))) ∧ upd H4 D (.lst (ys ++ [.ref p])) D = some (.lst (ys ++ [.ref p])) ∧ DpAll K (hid [pu, D] (upd H4 D (.lst (ys ++ [.ref p])))) (ys ++ [.ref p]) (List.map dPair (ws ++ [(x, y)])) ∧ (ws ++ [(x, y)]).length = i + 1 ∧ ∀ w ∈ ws ++ [(x, y)], WayIn m w) := by
      intro p x y kk' H4 np np' L4 hk4 S4 ep hw
      have pd : p ≠ D := fun e => by rw [e, hD] at np; cases np
      refine ⟨L4.upd nD', by omega, same_hid_mut (S3.trans S4) fr, upd_same, ?_, by simp [hl], fun w hw' => ?_⟩
      · rw [hid_upd (by simp), List.map_append]
        refine dpa_app (dpa_same (hid_more S4 (by simp)) hys) (.cons (dp_of_pair (stp ?_)) .nil)
        rw [hid_ne (not_in2 (fun e => np' (by rw [e]; simp)) pd)]; exact ep
      · rcases List.mem_append.mp hw' with h | h
        · exact hok w h
        · have e : w = (x, y) := by simpa using h
          rw [e]; exact hw
    wtm_at "s"
    refine ⟨_, _, rfl, pu, kk, 2, rfl, rfl, L3, by omega, by decide, by decide, fun r H4 r0 r1 L4 S4 => ?_⟩
    wtm_at "s"
    refine k_it (fun c2 => ?_) (fun c2 => ?_)
    · wtm_at "s"
      have hD4 := keeps S4 hD nD'
      refine k_tyL (sl hD4) ?_
      wtm_at "s"
      refine ⟨_, _, rfl, pu, kk + 1, m, rfl, rfl, L4, by omega, m0, m1, fun p x y H5 np np' L5 S5 ep w1 w2 w3 w4 w5 => ?_⟩
      wtm_at "s"
      refine k_append (keeps S5 hD4 nD') (by omega) ?_
      exact ⟨_, _, _, _, rfl, fin p x y _ H5 (fresh_hid S4 np np') np' L5 (by omega) (S4.trans S5) ep ⟨w1, w2, w3, w4, w5⟩⟩
    · wtm_at "s"
      have hD4 := keeps S4 hD nD'
      refine k_tyL (sl hD4) ?_
      wtm_at "s"
      refine ⟨_, _, rfl, pu, kk + 1, m, rfl, rfl, L4, by omega, m0, m1, fun p x y H5 np np' L5 S5 ep w1 w2 w3 w4 w5 => ?_⟩
      wtm_at "s"
      refine k_append (keeps S5 hD4 nD') (by omega) ?_
      exact ⟨_, _, _, _, rfl, fin p x y _ H5 (fresh_hid S4 np np') np' L5 (by omega) (S4.trans S5) ep ⟨w1, w2, w3, w4, w5⟩⟩
  · rintro σ' H3 ⟨ys, ws, kk, k3, rfl, L3, hkk, S3, hD, hys, hl, hok⟩
    wtm_at "s"
    exact q D ys ws kk H3 nD nD' L3 (by omega) S3 hD hys (by omega) hok
abbrev sp_law_ways (K : PySem.W.Frag) : Sp := fun vs H Q E => ∃ v0 v1, vs = [v0, v1] ∧ pr_law_ways K v0 v1 H Q E
theorem ok_law_ways (T : Txt K mg A) : FnOk P w K mg base CX0 4 A.a_law_ways A.d_law_ways ["_law_left_here", "_law_many"] (sp_law_ways K) := by
  refine T.F_law_ways.ok sc_law_ways (fun vs H Q E h => by obtain ⟨v0, v1, rfl, _⟩ := h; rfl) (fun cdv A0 outer s H vs Q E hr h => ?_)
  obtain ⟨v0, v1, rfl, h⟩ := h
  exact ⟨t_law_ways K, (pss_cons (ps_set (i := 2) sc_law_ways.nd rfl (Or.inl rfl) (pe_lst pa_nil))
      (pss_cons (ps_for PassesOwn.never rfl (pi_range1 (by rfl) T.z_range (pa_cons (pe_call (ok_law_draw T) (hr.mono (by decide)) (by rfl) T.g_law_draw T.F_law_draw.kp T.b_law_draw .nil pass0 (pa_cons (pv 0) (pa_cons (pe_ix ix_list (pe_lst (pa_cons pe_int (pa_cons pe_int (pa_cons pe_int pa_nil)))) (pe_call (ok_law_draw T) (hr.mono (by decide)) (by rfl) T.g_law_draw T.F_law_draw.kp T.b_law_draw .nil pass0 (pa_cons (pv 0) (pa_cons pe_int pa_nil))) (fun _ _ => rfl)) pa_nil))) pa_nil)) (pg_name (i := 3) sc_law_ways.nd rfl (Or.inl rfl))
      (pss_one (ps_if (pt_cmpR op_eq (pe_call (ok_law_draw T) (hr.mono (by decide)) (by rfl) T.g_law_draw T.F_law_draw.kp T.b_law_draw .nil pass0 (pa_cons (pv 0) (pa_cons pe_int pa_nil))) pe_int (nomark _)) (pss_one (ps_expr (pe_bm PySem.F.plainAttrs_list PySem.F.slot_list_append PySem.F.type_list_append mt_append (pv 2) (pa_cons (pe_call (ok_law_way T) (hr.mono (by decide)) (by rfl) T.g_law_way T.F_law_way.kp T.b_law_way .nil pass0 (pa_cons (pv 0) (pa_cons (pv 1) pa_nil))) pa_nil)))) (pss_one (ps_expr (pe_bm PySem.F.plainAttrs_list PySem.F.slot_list_append PySem.F.type_list_append mt_append (pv 2) (pa_cons (pe_call (ok_law_short_way T) (hr.mono (by decide)) (by rfl) T.g_law_short_way T.F_law_short_way.kp T.b_law_short_way .nil pass0 (pa_cons (pv 0) (pa_cons (pv 1) pa_nil))) pa_nil)))))))
      (pss_one (ps_ret (pv 2))))), pure_law_ways h⟩


def pr_law_refused (K : PySem.W.Frag) (A : Ad) (v0 v1 v2 : V) (H : Hp) (Q : VK) (_ : XK) : Prop := ∃ (x : Int) (N : Net) (ws : List (Int × Int)), v2 = .int x ∧ Dp K H v0 N.d ∧ N.ok ∧ Dp K H v1 (dPairs ws) ∧ ws.length ≤ 10000 ∧
  ((N.kind ≠ Str.ofString "line" ∧ ∀ H', Same H H' → Q (.str (Str.ofString "net")) H') ∨ (∃ i : Nat, N.kind = Str.ofString "line" ∧ FirstBad N ws i ∧ ∀ H', Same H H' → Q (.int i) H'))
def t_law_refused (K : PySem.W.Frag) (A : Ad) : TS :=
  (tSeq (tAsg (tC .non) (gName 3))
    (tSeq (tTryK K (.ref A.c_TieError) 4 3 fun W => (tIfS (tTest (tOp rEq (tVar 2) (tC (.int 0)))) (tDrop (tCallS (sp_line_hues K A) (WE W) (tCons (tVar 0) (tCons (tVar 1) tNil)))) (tDrop (tCallS (sp_shows K A) (WE W) (tCons (tVar 0) (tCons (tVar 1) (tCons (tLst tNil) tNil)))))))
    (tSeq (tIfS (tTest (tOp xIsN (tVar 3) (tC .non))) (tRet (tC (.str (Str.ofString "told")))) tNext)
    (tSeq (tIfS (tOr (tB (tCB (rIsA K) (tCons (tVar 3) (tCons (tTup (tCons (tC (.ref A.c_NoHues)) (tCons (tC (.ref A.c_NoNet)) (tCons (tC (.ref A.c_NoPlace)) (tCons (tC (.ref A.c_TooMany)) tNil))))) tNil)))) (tNot (tB (tCB (rIsA K) (tCons (tVar 3) (tCons (tC (.ty "ValueError")) tNil)))))) (tRet (tC (.str (Str.ofString "other")))) tNext)
    (tSeq (tIfS (tB (tCB (rIsA K) (tCons (tVar 3) (tCons (tC (.ref A.c_OtherNet)) tNil)))) (tRet (tOp (rIxL K) (tLst (tCons (tC (.str (Str.ofString "net"))) (tCons (tC (.str (Str.ofString "other"))) tNil))) (tCB rIntOf (tCons (tCB (rIsA K) (tCons (tVar 3) (tCons (tC (.ref A.c_NoWay)) tNil))) tNil)))) tNext)
    (tSeq (tIfS (tNot (tB (tCB (rIsA K) (tCons (tVar 3) (tCons (tC (.ref A.c_NoWay)) tNil))))) (tRet (tC (.str (Str.ofString "other")))) tNext)
    (tRet (tXat K (Str.ofString "at") (tVar 3)))))))))
theorem pure_law_refused (T : Txt K mg A) {v0 v1 v2 : V} {H : Hp} {Q : VK} {E : XK} (h : pr_law_refused K A v0 v1 v2 H Q E) : t_law_refused K A ⟨fun _ H' => Q .non H', Q, fun _ _ => False, fun _ _ => False⟩ [some v0, some v1, some v2, none, none] H := by
  obtain ⟨x, N, ws, rfl, hd, ok, hw, hz, h⟩ := h
  unfold t_law_refused
  rcases h with ⟨hk, q⟩ | ⟨i, hk, fb, q⟩
  · refine k_seq (k_set (k_c (k_seq (tryjoin (fun cls d σ' H1 => cls = .ref A.c_OtherNet ∧ d = none ∧ Same H H1 ∧ σ' = [some v0, some v1, some (.int x), some .non, none]) ?_ (fun rest => ?_)))))
    · rintro cls d σ' H1 ⟨rfl, rfl, s1, rfl⟩
      refine k_caught (by show 4 < 5; decide) (PySem.W.exm_ref T.x_TieError.hs T.x_TieError.hd T.t_TieError T.u_OtherNet) (fun e ne => ?_)
      have s2 := same_new (o := ExV (.ref A.c_OtherNet) none e) ne
      have kp : KeptAt (upd H1 e (ExV (.ref A.c_OtherNet) none e)) e A.c_OtherNet := ⟨none, upd_same, .inl rfl⟩
      generalize upd H1 e (ExV (.ref A.c_OtherNet) none e) = H2 at s2 kp ⊢
      wtm_at "s"
      refine kT (by simp) (fun tp H3 ntp s3 e3 => ?_)
      refine k_isXtup (b := false) (kept_same kp (by wtm_at "sm")) T.x_OtherNet e3 (.cons (.own _) (.cons (.own _) (.cons (.own _) (.cons (.own _) .nil)))) (by simp [PySem.W.kitAny, T.q_OtherNet_NoHues, T.q_OtherNet_NoNet, T.q_OtherNet_NoPlace, T.q_OtherNet_TooMany]) ?_
      wtm_at "s"
      refine k_isXone (xs := []) (kept_same kp (by wtm_at "sm")) T.x_OtherNet (.ty _) T.q_OtherNet_ValueError ?_
      wtm_at "s"
      refine k_isXone (xs := []) (kept_same kp (by wtm_at "sm")) T.x_OtherNet (.own _) T.q_OtherNet_OtherNet ?_
      wtm_at "s"
      refine kL (by simp) (fun l H4 nl s4 e4 => ?_)
      wtm_at "s"
      refine k_isXone (xs := []) (kept_same kp (by wtm_at "sm")) T.x_OtherNet (.own _) T.q_OtherNet_NoWay ?_
      wtm_at "s"
      refine k_ixL (sl e4) (v := .str (Str.ofString "net")) rfl ?_
      exact q _ (by wtm_at "sm")
    refine k_try ?_
    wtm_at "s"
    refine k_it (fun c => ?_) (fun c => ?_)
    · wtm_at "s"
      exact ⟨_, _, rfl, N, ws, hd, ok, hw, hz, .inl ⟨hk, rest _ _ _ _ ⟨rfl, rfl, Same.refl _, rfl⟩⟩⟩
    · wtm_at "s"
      refine kL (by simp) (fun l H1 nl s1 e1 => ?_)
      wtm_at "s"
      exact ⟨_, _, _, rfl, N, ws, dp_same s1 hd, ok, dp_same s1 hw, hz, .inl ⟨hk, rest _ _ _ _ ⟨rfl, rfl, s1, rfl⟩⟩⟩
  · refine k_seq (k_set (k_c (k_seq (tryjoin (fun cls dd σ' H2 => ∃ H1 d, cls = .ref A.c_NoWay ∧ dd = some d ∧ Same H H1 ∧ H1 d = none ∧ H2 = upd H1 d (.xd [(Str.ofString "at", .int i)]) ∧ σ' = [some v0, some v1, some (.int x), some .non, none]) ?_ (fun rest => ?_)))))
    · rintro cls dd σ' H2 ⟨H1, d, rfl, rfl, s1, nd, rfl, rfl⟩
      refine k_caught (by show 4 < 5; decide) (PySem.W.exm_ref T.x_TieError.hs T.x_TieError.hd T.t_TieError T.u_NoWay) (fun e ne => ?_)
      have s2 := (same_new (o := .xd [(Str.ofString "at", V.int i)]) nd).trans (same_new (o := ExV (.ref A.c_NoWay) (some d) e) ne)
      have e1 : upd (upd H1 d (.xd [(Str.ofString "at", V.int i)])) e (ExV (.ref A.c_NoWay) (some d) e) e = some (ExV (.ref A.c_NoWay) (some d) e) := upd_same
      have e2 : upd (upd H1 d (.xd [(Str.ofString "at", V.int i)])) e (ExV (.ref A.c_NoWay) (some d) e) d = some (.xd [(Str.ofString "at", V.int i)]) := same_new ne _ _ upd_same
      generalize upd (upd H1 d (.xd [(Str.ofString "at", V.int i)])) e (ExV (.ref A.c_NoWay) (some d) e) = H2 at s2 e1 e2 ⊢
      have kp : KeptAt H2 e A.c_NoWay := ⟨_, e1, .inr ⟨_, _, rfl, e2⟩⟩
      wtm_at "s"
      refine kT (by simp) (fun tp H3 ntp s3 e3 => ?_)
      refine k_isXtup (b := false) (kept_same kp (by wtm_at "sm")) T.x_NoWay e3 (.cons (.own _) (.cons (.own _) (.cons (.own _) (.cons (.own _) .nil)))) (by simp [PySem.W.kitAny, T.q_NoWay_NoHues, T.q_NoWay_NoNet, T.q_NoWay_NoPlace, T.q_NoWay_TooMany]) ?_
      wtm_at "s"
      refine k_isXone (xs := []) (kept_same kp (by wtm_at "sm")) T.x_NoWay (.ty _) T.q_NoWay_ValueError ?_
      wtm_at "s"
      refine k_isXone (xs := []) (kept_same kp (by wtm_at "sm")) T.x_NoWay (.own _) T.q_NoWay_OtherNet ?_
      wtm_at "s"
      refine k_isXone (xs := []) (kept_same kp (by wtm_at "sm")) T.x_NoWay (.own _) T.q_NoWay_NoWay ?_
      wtm_at "s"
      refine ⟨e, A.c_NoWay, d, _, _, rfl, by wtm_at "at", T.x_NoWay.xf, T.nf_NoWay, by wtm_at "at", rfl, ?_⟩
      exact q _ (by wtm_at "sm")
    refine k_try ?_
    wtm_at "s"
    refine k_it (fun c => ?_) (fun c => ?_)
    · wtm_at "s"
      exact ⟨_, _, rfl, N, ws, hd, ok, hw, hz, .inr ⟨i, hk, fb, fun d nd => rest _ _ _ _ ⟨H, d, rfl, rfl, Same.refl _, nd, rfl, rfl⟩⟩⟩
    · wtm_at "s"
      refine kL (by simp) (fun l H1 nl s1 e1 => ?_)
      wtm_at "s"
      exact ⟨_, _, _, rfl, N, ws, dp_same s1 hd, ok, dp_same s1 hw, hz, .inr ⟨i, hk, fb, fun d nd => rest _ _ _ _ ⟨H1, d, rfl, rfl, s1, nd, rfl, rfl⟩⟩⟩
abbrev sp_law_refused (K : PySem.W.Frag) (A : Ad) : Sp := fun vs H Q E => ∃ v0 v1 v2, vs = [v0, v1, v2] ∧ pr_law_refused K A v0 v1 v2 H Q E
theorem ok_law_refused (T : Txt K mg A) : FnOk P w K mg base CX0 5 A.a_law_refused A.d_law_refused ["_law_net", "_law_ways_here", "_law_which"] (sp_law_refused K A) := by
  refine T.F_law_refused.ok sc_law_refused (fun vs H Q E h => by obtain ⟨v0, v1, v2, rfl, _⟩ := h; rfl) (fun cdv A0 outer s H vs Q E hr h => ?_)
  obtain ⟨v0, v1, v2, rfl, h⟩ := h
  exact ⟨t_law_refused K A, (pss_cons (ps_set (i := 3) sc_law_refused.nd rfl (Or.inl rfl) pe_non)
      (pss_cons (ps_try_kept (i := 4) (tb := fun W => (tIfS (tTest (tOp rEq (tVar 2) (tC (.int 0)))) (tDrop (tCallS (sp_line_hues K A) (WE W) (tCons (tVar 0) (tCons (tVar 1) tNil)))) (tDrop (tCallS (sp_shows K A) (WE W) (tCons (tVar 0) (tCons (tVar 1) (tCons (tLst tNil) tNil))))))) (ts := fun _ _ _ => tAsg (tVar 4) (gName 3)) (Wout := fun _ _ _ _ => False) rfl rfl rfl sc_law_refused.nd rfl rfl ⟨by rfl, by decide, Or.inl T.k_TieError⟩ takes0
      (fun W pn xe tk _ => (pss_one (ps_if (pt_cmpR op_eq (pv 2) pe_int (nomark _)) (pss_one (ps_expr (pe_callS (ok_line_hues T) (hr.mono (by decide)) (by rfl) T.g_line_hues T.F_line_hues.kp T.b_line_hues (fun σ => passAt tk σ) (pa_cons (pv 0) (pa_cons (pv 1) pa_nil))))) (pss_one (ps_expr (pe_callS (ok_shows T) (hr.mono (by decide)) (by rfl) T.g_shows T.F_shows.kp T.b_shows (fun σ => passAt tk σ) (pa_cons (pv 0) (pa_cons (pv 1) (pa_cons (pe_lst pa_nil) pa_nil)))))))))
      (fun a oe cls d pn hz hf => (pss_one (ps_set (i := 3) sc_law_refused.nd rfl (Or.inl rfl) (pv 4)))))
      (pss_cons (ps_if (pt_cmpR op_isN (pv 3) pe_non (nomark _)) (pss_one (ps_ret pe_str)) pss_nil)
      (pss_cons (ps_if (PW.pt (pw_or (pt_val (pe_callB q_isA (by rfl) T.z_isinstance (by decide +kernel) (pa_cons (pv 3) (pa_cons (pe_tup (pa_cons (pe_glob (v := .ref A.c_NoHues) (by rfl) T.k_NoHues rfl) (pa_cons (pe_glob (v := .ref A.c_NoNet) (by rfl) T.k_NoNet rfl) (pa_cons (pe_glob (v := .ref A.c_NoPlace) (by rfl) T.k_NoPlace rfl) (pa_cons (pe_glob (v := .ref A.c_TooMany) (by rfl) T.k_TooMany rfl) pa_nil))))) pa_nil)))) (pw_or1 (pt_not (pt_val (pe_callB q_isA (by rfl) T.z_isinstance (by decide +kernel) (pa_cons (pv 3) (pa_cons (pe_bltn (v := .ty "ValueError") (by rfl) T.z_ValueError (by decide +kernel) rfl) pa_nil)))))))) (pss_one (ps_ret pe_str)) pss_nil)
      (pss_cons (ps_if (pt_val (pe_callB q_isA (by rfl) T.z_isinstance (by decide +kernel) (pa_cons (pv 3) (pa_cons (pe_glob (v := .ref A.c_OtherNet) (by rfl) T.k_OtherNet rfl) pa_nil)))) (pss_one (ps_ret (pe_ix ix_list (pe_lst (pa_cons pe_str (pa_cons pe_str pa_nil))) (pe_callTy q_intB (by rfl) T.z_int (by decide +kernel) (pa_cons (pe_callB q_isA (by rfl) T.z_isinstance (by decide +kernel) (pa_cons (pv 3) (pa_cons (pe_glob (v := .ref A.c_NoWay) (by rfl) T.k_NoWay rfl) pa_nil))) pa_nil)) (fun _ _ => rfl)))) pss_nil)
      (pss_cons (ps_if (pt_not (pt_val (pe_callB q_isA (by rfl) T.z_isinstance (by decide +kernel) (pa_cons (pv 3) (pa_cons (pe_glob (v := .ref A.c_NoWay) (by rfl) T.k_NoWay rfl) pa_nil))))) (pss_one (ps_ret pe_str)) pss_nil)
      (pss_one (ps_ret (pe_xat (pv 3)))))))))), pure_law_refused T h⟩


/-- the law's outer loop: over [c] + script[:z] -/
theorem law_frameN {BODY : TS} {c z : Int} {N : Nat} {m : Nat} {a : Addr} {ns : List Int} {H : Hp} {Q : VK} {n0 : L2.St → Hp → Prop} {bk ct : L2.St → Hp → Prop} (hz : z = N) (hn : ns.length ≤ 63) (ha : SqL K H a (ns.map V.int)) (q : ∀ H', Q (.bl true) H')
    (body : ∀ (cell : Int) (l : List (Option V)) (H3 H4 : Hp) (nx : L2.St → Hp → Prop), l.length = m → Same H3 H4 →
      BODY ⟨fun σ' H' => Same H3 H' ∧ ∃ l' : List (Option V), l'.length = m + 1 ∧ σ' = some (.ref a) :: l', Q, nx, fun σ' H' => Same H3 H' ∧ ∃ l' : List (Option V), l'.length = m + 1 ∧ σ' = some (.ref a) :: l'⟩ (some (.ref a) :: some (.int cell) :: l) H4) :
    tSeq (tFor (iList K (tOp rCat (tLst (tCons (tC (.int c)) tNil)) (tSl (rSlL K) (tVar 0) tNoPart (tPart (tC (.int z)))))) (gName 1) BODY) (tRet (tC (.bl true))) ⟨n0, Q, bk, ct⟩ (some (.ref a) :: List.replicate (m + 1) none) H := by
  wtm_at "s"
  refine ⟨sz (by simp), fun l1 n1 => ?_⟩
  have s1 := same_new (o := .lst [.int c]) n1
  have e1 := upd_same (H := H) (a := l1) (o := .lst [.int c])
  generalize upd H l1 (.lst [.int c]) = H1 at s1 e1 ⊢
  wtm_at "s"
  refine ⟨a, _, rfl, s1.seq ha, fun l2 n2 => ?_⟩
  rw [hz, cutTo N]
  have s2 := same_new (o := .lst ((ns.take N).map V.int)) n2
  have e2 := upd_same (H := H1) (a := l2) (o := .lst ((ns.take N).map V.int))
  generalize upd H1 l2 (.lst ((ns.take N).map V.int)) = H2 at s2 e2 ⊢
  refine k_cat (s2 _ _ e1) e2 (by simp; omega) (fun l3 n3 => ?_)
  have e3 : upd H2 l3 (.lst ([.int c] ++ (ns.take N).map V.int)) l3 = some (.lst ((c :: ns.take N).map V.int)) := upd_same
  generalize upd H2 l3 (.lst ([.int c] ++ (ns.take N).map V.int)) = H3 at e3 ⊢
  wtm_at "s"
  refine forL (sl e3) (fun i σ' H' => Same H3 H' ∧ ∃ l' : List (Option V), l'.length = m + 1 ∧ σ' = some (.ref a) :: l') ⟨Same.refl _, List.replicate (m + 1) none, by simp, rfl⟩ (fun i σ' H' _ e => e.1.seq (sl e3)) ?_ ?_
  · rintro i x σ' H4 hx ⟨sm, l', hl', rfl⟩
    rw [List.getElem?_map] at hx
    obtain ⟨cell, _, rfl⟩ := Option.map_eq_some_iff.mp hx
    cases l' with
    | nil => simp at hl'
    | cons y l => exact body cell l H3 H4 _ (by simpa using hl') sm
  · rintro σ' H' ⟨sm, l', hl', rfl⟩
    wtm_at "s"
    exact q _

theorem far29 : 0 < (10 : Int) ^ (29 : Int).toNat ∧ (10 : Int) ^ (29 : Int).toNat < 2 ^ 200 := by decide +kernel
theorem rep0 (n : Nat) : (List.replicate n [V.int 0]).flatten = List.map V.int (List.replicate n 0) := by
  induction n with
  | zero => rfl
  | succ n ih => rw [List.replicate_succ, List.flatten_cons, ih]; rfl
theorem str_ok (s : Str) (h : PyData.strOk s = true) {n : Nat} : Sh n (.str s) := ⟨h, Nat.zero_le _⟩
theorem bad_set {N : Net} {bs : List (Int × Int)} {m k : Nat} {b : Int × Int} (h : FirstBad N bs m) (hk : m < k) : FirstBad N (bs.set k b) m := by
  obtain ⟨w, h1, h2, h3⟩ := h
  refine ⟨w, by rw [List.getElem?_set_ne (by omega)]; exact h1, h2, fun j v hj hv => h3 j v hj ?_⟩
  rwa [List.getElem?_set_ne (by omega)] at hv
theorem dpa_set {K : PySem.W.Frag} {H : Hp} {v : V} {d : PyData} (h : Dp K H v d) : ∀ {vs : List V} {ds : List PyData} (k : Nat), DpAll K H vs ds → DpAll K H (vs.set k v) (ds.set k d)
  | _, _, _, .nil => .nil
  | _, _, 0, .cons _ r => .cons h r
  | _, _, k + 1, .cons x r => .cons x (dpa_set h k r)
theorem sh_nets : Sh 4 (.list [.str (Str.ofString "net"), .str (Str.ofString "net")]) := sh_l2 (str_ok _ (by decide +kernel)) (str_ok _ (by decide +kernel))
theorem tree0 {k : Nat} (h1 : 1 ≤ k) (h2 : k < 60) : TreeOk (List.replicate k 0) := by
  refine ⟨by simpa using h1, by simpa using h2, fun j hj => ?_⟩
  have : (List.replicate k (0 : Int)).getD j 0 = 0 := by
    rw [List.getD_eq_getElem?_getD]
    cases h : (List.replicate k (0 : Int))[j]? with
    | none => rfl
    | some x => exact List.eq_of_mem_replicate (List.mem_of_getElem? h)
  rw [this]; omega

def sp_law (K : PySem.W.Frag) : Sp := fun vs H Q _ => ∃ (a : Addr) (ns : List Int), vs = [.ref a] ∧ SqL K H a (ns.map V.int) ∧ ns.length ≤ 63 ∧ ∀ H', Q (.bl true) H'
def t_law (K : PySem.W.Frag) (A : Ad) : TS :=
  (tSeq (tFor (iList K (tOp rCat (tLst (tCons (tC (.int 0)) tNil)) (tSl (rSlL K) (tVar 0) tNoPart (tPart (tC (.int 40)))))) (gName 1)
      (tSeq (tAsg (tCall (sp_law_left K) [] E0 (tCons (tLst (tCons (tVar 1) tNil)) (tCons (tC (.int 0)) tNil))) (gName 2))
    (tSeq (tAsg (tCall (sp_law_line K) [] E0 (tCons (tVar 2) tNil)) (gName 3))
    (tSeq (tAsg (tOp rCat (tSl (rSlL K) (tCall (sp_law_ways K) [] E0 (tCons (tVar 2) (tCons (tOp (rIxT K) (tVar 3) (tC (.int 1))) tNil))) tNoPart (tPart (tC (.int 39)))) (tLst (tCons (tTup (tCons (tC (.int 0)) (tCons (tC (.int 1)) tNil))) tNil))) (gName 4))
    (tSeq (tAsg (tCall (sp_law_draw K) [] E0 (tCons (tVar 2) (tCons (tOp xPow (tC (.int 10)) (tC (.int 29))) tNil))) (gName 5))
    (tSeq (tAsg (tLst (tCons (tTup (tCons (tC (.int 1)) (tCons (tC (.int 1)) tNil))) (tCons (tTup (tCons (tUn xNeg (tC (.int 1))) (tCons (tC (.int 0)) tNil))) (tCons (tTup (tCons (tC (.int 0)) (tCons (tOp (rIxT K) (tVar 3) (tC (.int 1))) tNil))) (tCons (tTup (tCons (tOp xAdd (tOp (rIxT K) (tVar 3) (tC (.int 1))) (tVar 5)) (tCons (tC (.int 0)) tNil))) (tCons (tTup (tCons (tC (.int 0)) (tCons (tOp xSub (tUn xNeg (tC (.int 1))) (tVar 5)) tNil))) tNil)))))) (gName 6))
    (tSeq (tAsg (tCall (sp_law_draw K) [] E0 (tCons (tVar 2) (tCons (tCB (rLen K) (tCons (tVar 4) tNil)) tNil))) (gName 7))
    (tSeq (tAsg (tOp rCat (tOp rCat (tSl (rSlL K) (tVar 4) tNoPart (tPart (tVar 7))) (tLst (tCons (tOp (rIxL K) (tVar 6) (tCall (sp_law_draw K) [] E0 (tCons (tVar 2) (tCons (tC (.int 5)) tNil)))) tNil))) (tSl (rSlL K) (tVar 4) (tPart (tOp xAdd (tVar 7) (tC (.int 1)))) tNoPart)) (gName 8))
    (tSeq (tIfS (tAnd (tTest (tOp rEq (tCall (sp_law_draw K) [] E0 (tCons (tVar 2) (tCons (tC (.int 2)) tNil))) (tC (.int 1)))) (tTest (tOp xLt (tOp xAdd (tVar 7) (tC (.int 1))) (tCB (rLen K) (tCons (tVar 8) tNil))))) (tAsg (tOp (rIxL K) (tVar 6) (tCall (sp_law_draw K) [] E0 (tCons (tVar 2) (tCons (tC (.int 5)) tNil)))) (gSub (tVar 8) (tUn xNeg (tC (.int 1))) rSetL)) tNext)
    (tSeq (tFor (iList K (tLst (tCons (tTup (tCons (tC (.str (Str.ofString "ring"))) (tCons (tOp xAdd (tC (.int 3)) (tCall (sp_law_draw K) [] E0 (tCons (tVar 2) (tCons (tC (.int 58)) tNil)))) tNil))) (tCons (tTup (tCons (tC (.str (Str.ofString "tree"))) (tCons (tOp rRep (tLst (tCons (tC (.int 0)) tNil)) (tOp xAdd (tC (.int 1)) (tCall (sp_law_draw K) [] E0 (tCons (tVar 2) (tCons (tC (.int 59)) tNil))))) tNil))) tNil)))) (gName 9)
      (tSeq (tAsg (tCB (rListOf K) (tCons (tVar 8) tNil)) (gName 10))
    (tIfS (tOr (tTest (tOp (rNeD K) (tLc (iRng1 (tCons (tC (.int 2)) tNil)) (gName 11) tYes (tCall (sp_law_refused K A) [] E0 (tCons (tVar 9) (tCons (tVar 10) (tCons (tVar 11) tNil)))) [11]) (tLst (tCons (tC (.str (Str.ofString "net"))) (tCons (tC (.str (Str.ofString "net"))) tNil))))) (tTest (tOp (rNeD K) (tVar 10) (tVar 8)))) (tRet (tC (.bl false))) tNext)))
    (tSeq (tAsg (tCB (rListOf K) (tCons (tVar 8) tNil)) (gName 10))
    (tFor (iRng1 (tCons (tC (.int 2)) tNil)) (gName 11)
      (tSeq (tAsg (tCall (sp_law_refused K A) [] E0 (tCons (tVar 3) (tCons (tVar 10) (tCons (tVar 11) tNil)))) (gName 12))
    (tIfS (tOr (tB (tCB (rIsi K) (tCons (tVar 12) (tCons (tC (.ty "bool")) tNil)))) (tOr (tTest (tOp (rNeD K) (tVar 12) (tVar 7))) (tTest (tOp (rNeD K) (tVar 10) (tVar 8))))) (tRet (tC (.bl false))) tNext))))))))))))))
    (tRet (tC (.bl true))))
theorem pure_law (T : Txt K mg A) {v0 : V} {H : Hp} {Q : VK} (h : ∃ (a : Addr) (ns : List Int), v0 = .ref a ∧ SqL K H a (ns.map V.int) ∧ ns.length ≤ 63 ∧ ∀ H', Q (.bl true) H') : t_law K A ⟨fun _ H' => Q .non H', Q, fun _ _ => False, fun _ _ => False⟩ [some v0, none, none, none, none, none, none, none, none, none, none, none, none] H := by
  obtain ⟨a, ns, rfl, ha, hz, q⟩ := h
  unfold t_law
  refine law_frameN (m := 11) (N := 40) rfl hz ha q ?_
  clear ha hz q H ns
  intro cell l H3 H4 nx hl sm
  match l, hl with
  | [k2, k3, k4, k5, k6, k7, k8, k9, k10, k11, k12], _ =>
  wtm_at "s"
  refine kL (by simp) (fun cl H5 ncl s5 e5 => ?_)
  wtm_at "s"
  refine ⟨_, _, rfl, cl, [cell], 0, rfl, rfl, sl e5, by decide, fun pu H6 npu s6 L6 => ?_⟩
  have h0 : Same H5 (hid [pu] H5) := hid_free1 npu
  clear e5
  wtm_at "s"
  refine ⟨_, rfl, pu, 0, rfl, L6, by decide, fun nt n H7 nnt nnt' L7 S7 ent n0 n1 => ?_⟩
  have dNt : Dp K (hid [pu] H7) (.ref nt) (Net.line n).d := .tup (stp ent) (.cons (.str _) (.cons (.int _) .nil))
  wtm_at "s"
  refine ⟨_, _, rfl, pu, _, n, rfl, rfl, L7, by decide, n0, by omega, fun wl ys ws kk H8 nwl nwl' L8 hk8 S8 hwl hys lw hok => ?_⟩
  have ewl := hat nwl' hwl
  have hysF : DpAll K (hid [pu] H8) ys (ws.map dPair) := dpa_same (hid_sub (by simp)) hys
  have ly := dpa_len hys
  rw [List.length_map] at ly
  clear hys hwl
  wtm_at "s"
  refine k_slL (xs := ys) (by wtm_at "sq") (fun w1 H9 nw1 s9 e9 => ?_)
  rw [show (39 : Int) = ((39 : Nat) : Int) from rfl, cut_to] at e9
  have L9 := L8.same s9
  wtm_at "s"
  refine kTp L9 (by simp) (fun tp HA ntp sA eA => ?_)
  have LA := L9.same sA
  wtm_at "s"
  refine kL (by simp) (fun w2 HB nw2 sB eB => ?_)
  have LB := LA.same sB
  refine k_catN (by wtm_at "at") (by wtm_at "at") (by simp; omega) (fun wy HC nwy sC eC => ?_)
  replace eC := LB.at nwy eC
  have LC := LB.same sC
  have dA : DpAll K (hid [pu] HC) (ys.take 39 ++ [.ref tp]) ((ws.take 39 ++ [(0, 1)]).map dPair) := by
    rw [List.map_append, List.map_take]
    exact dpa_app (dpa_take 39 (by wtm_at "dp")) (.cons (dpP_at eA (by wtm_at "sm")) .nil)
  have hokA : ∀ w ∈ ws.take 39 ++ [(0, 1)], isWay (.line n) w.1 w.2 := fun w hw => by
    rcases List.mem_append.mp hw with hw | hw
    · obtain ⟨z1, z2, z3, z4, z5⟩ := hok w (List.mem_of_mem_take hw)
      exact ⟨z1, z2, z4, z3, z5⟩
    · have e : w = (0, 1) := by simpa using hw
      subst e
      exact ⟨by decide, by decide, by decide, by show (0 : Int) < n; omega, by show (1 : Int) < n; omega⟩
  have lA : (ys.take 39 ++ [V.ref tp]).length = (ws.take 39 ++ [((0 : Int), (1 : Int))]).length := by simp; omega
  have lA1 : 1 ≤ (ws.take 39 ++ [((0 : Int), (1 : Int))]).length ∧ (ws.take 39 ++ [((0 : Int), (1 : Int))]).length ≤ 40 := by simp; omega
  generalize ys.take 39 ++ [V.ref tp] = xs at eC dA lA
  generalize ws.take 39 ++ [((0 : Int), (1 : Int))] = vs at dA hokA lA lA1
  clear eA eB e9 ewl hysF hok
  wtm_at "s"
  refine ⟨_, _, rfl, pu, _, _, rfl, rfl, LC, by omega, far29.1, far29.2, fun far HD f0 f1 LD SD => ?_⟩
  clear f1
  wtm_at "s"
  refine kTp LD (by simp) (fun t1 HE n1' sE e1 => ?_)
  have LE := LD.same sE
  wtm_at "s"
  refine kTp LE (by simp) (fun t2 HF n2' sF e2 => ?_)
  have LF := LE.same sF
  wtm_at "s"
  refine kTp LF (by simp) (fun t3 HG n3' sG e3 => ?_)
  have LG := LF.same sG
  wtm_at "s"
  refine kTp LG (by simp) (fun t4 HI n4' sI e4 => ?_)
  have LI := LG.same sI
  wtm_at "s"
  refine kTp LI (by simp) (fun t5 HJ n5' sJ e5 => ?_)
  have LJ := LI.same sJ
  wtm_at "s"
  refine kLp LJ (by simp) (fun so HK nso sK eK => ?_)
  have LK := LJ.same sK
  have pick : ∀ r : Int, 0 ≤ r → r < 5 → ∃ b bx by_, atI [V.ref t1, .ref t2, .ref t3, .ref t4, .ref t5] r = some (.ref b) ∧ hid [pu] HK b = some (.tup [.int bx, .int by_]) ∧ ¬ isWay (.line n) bx by_ := by
    intro r r0 r1
    have : r = 0 ∨ r = 1 ∨ r = 2 ∨ r = 3 ∨ r = 4 := by omega
    rcases this with rfl | rfl | rfl | rfl | rfl
    · exact ⟨t1, _, _, rfl, at_same e1 (by wtm_at "sm"), fun z => z.1 rfl⟩
    · exact ⟨t2, _, _, rfl, at_same e2 (by wtm_at "sm"), fun z => by have := z.2.1; omega⟩
    · exact ⟨t3, _, _, rfl, at_same e3 (by wtm_at "sm"), fun z => by have h : n < n := z.2.2.2.2; omega⟩
    · exact ⟨t4, _, _, rfl, at_same e4 (by wtm_at "sm"), fun z => by have h : n + far < n := z.2.2.2.1; omega⟩
    · exact ⟨t5, _, _, rfl, at_same e5 (by wtm_at "sm"), fun z => by have := z.2.2.1; omega⟩
  clear e1 e2 e3 e4 e5
  wtm_at "s"
  refine ⟨_, _, rfl, pu, _, _, rfl, rfl, LK, by omega, by omega, by omega, fun at' HL at0 at1 LL SL => ?_⟩
  obtain ⟨m, rfl⟩ := Int.eq_ofNat_of_zero_le at0
  wtm_at "s"
  refine k_slL (xs := xs) (by wtm_at "sq") (fun p1 HM np1 sM eM => ?_)
  rw [cut_to] at eM
  replace eM := LL.at np1 eM
  have LM := LL.same sM
  wtm_at "s"
  refine ⟨_, _, rfl, pu, _, 5, rfl, rfl, LM, by omega, by decide, by decide, fun r HN r0 r1 LN SN => ?_⟩
  obtain ⟨b, bx, by_, hat', eb, hbad⟩ := pick r r0 r1
  refine k_ixL (by wtm_at "sq") hat' ?_
  wtm_at "s"
  refine kL (by simp) (fun p2 HO np2 sO eO => ?_)
  have LO := LN.same sO
  refine k_catN (by wtm_at "at") (by wtm_at "at") (by simp; omega) (fun p3 HP np3 sP eP => ?_)
  have LP := LO.same sP
  wtm_at "s"
  refine k_slL (xs := xs) (by wtm_at "sq") (fun p4 HW np4 sW eW => ?_)
  rw [show (m : Int) + 1 = ((m + 1 : Nat) : Int) by omega, cut_from] at eW
  have LW := LP.same sW
  refine k_catN (by wtm_at "at") (by wtm_at "at") (by simp; omega) (fun bd HX nbd sX eX => ?_)
  have nbd' := LW.fresh nbd
  have frb : hid [pu] HW bd = none := by rw [hid_ne nbd']; exact nbd
  replace eX := LW.at nbd eX
  have LX := LW.same sX
  have dB : DpAll K (hid [pu] HW) (xs.take m ++ [.ref b] ++ xs.drop (m + 1)) ((vs.take m ++ [(bx, by_)] ++ vs.drop (m + 1)).map dPair) := by
    rw [List.map_append, List.map_append, List.map_take, List.map_drop]
    have base : DpAll K (hid [pu] HW) xs (vs.map dPair) := by wtm_at "dp"
    exact dpa_app (dpa_app (dpa_take m base) (.cons (dpP_at eb (by wtm_at "sm")) .nil)) (dpa_drop (m + 1) base)
  have fb : FirstBad (.line n) (vs.take m ++ [(bx, by_)] ++ vs.drop (m + 1)) m := by
    have := bad_mid (N := .line n) (ws := vs.take m) (vs := vs.drop (m + 1)) (b := (bx, by_)) (fun w hw => hokA w (List.mem_of_mem_take hw)) hbad
    rwa [show (vs.take m).length = m by simp; omega] at this
  have lB : (xs.take m ++ [V.ref b] ++ xs.drop (m + 1)).length = (vs.take m ++ [(bx, by_)] ++ vs.drop (m + 1)).length := by simp; omega
  have lB1 : (vs.take m ++ [(bx, by_)] ++ vs.drop (m + 1)).length ≤ 50 := by simp; omega
  generalize xs.take m ++ [V.ref b] ++ xs.drop (m + 1) = zs at eX dB lB
  generalize vs.take m ++ [(bx, by_)] ++ vs.drop (m + 1) = bs at dB fb lB lB1
  refine k_gname (k_seq (ifsjoin (fun σ' H' => ∃ zs bs kk', σ' = [some (.ref a), some (.int cell), some (.ref pu), some (.ref nt), some (.ref wy), some (.int far), some (.ref so), some (.int m), some (.ref bd), k9, k10, k11, k12] ∧ Same (hid [pu] HW) (hid [pu] H') ∧ Le H' pu kk' ∧ kk' ≤ 1000 ∧ hid [pu] H' bd = some (.lst zs) ∧ DpAll K (hid [pu] HW) zs (bs.map dPair) ∧ bs.length ≤ 50 ∧ FirstBad (.line n) bs m) ?_ (fun main => ?_)))
  · clear eX dB lB lB1 fb sX LX zs bs
    rintro σ' HY ⟨zs, bs, kk', rfl, SY, LY, hkY, eY, dB, lB, fb⟩
    have dBd : Dp K (hid [pu] HY) (.ref bd) (dPairs bs) := .lst (sl eY) (by wtm_at "dp")
    wtm_at "s"
    refine ⟨_, _, rfl, pu, _, 58, rfl, rfl, LY, by omega, by decide, by decide, fun d1 HZ d10 d11 LZ SZ => ?_⟩
    wtm_at "s"
    refine kTp LZ (by simp) (fun q1 G1 nq1 g1 eq1 => ?_)
    have M1 := LZ.same g1
    wtm_at "s"
    refine kLp M1 (by simp) (fun q2 G2 nq2 g2 eq2 => ?_)
    have M2 := M1.same g2
    wtm_at "s"
    refine ⟨_, _, rfl, pu, _, 59, rfl, rfl, M2, by omega, by decide, by decide, fun d2 G3 d20 d21 M3 g3 => ?_⟩
    wtm_at "s"
    refine k_repN (by wtm_at "at") (by omega) (by omega) (by simp; omega) (fun q3 G4 nq3 g4 eq3 => ?_)
    rw [rep0] at eq3
    wtm_at "s"
    refine kT (by simp) (fun q4 G5 nq4 g5 eq4 => ?_)
    wtm_at "s"
    refine kL (by simp) (fun q5 G6 nq5 g6 eq5 => ?_)
    have all : ∀ (j : Nat) x, [V.ref q1, .ref q4][j]? = some x → ∃ N : Net, Dp K G6 x N.d ∧ N.ok ∧ N.kind ≠ Str.ofString "line" := by
      intro j x hx
      have hm := List.mem_of_getElem? hx
      simp only [List.mem_cons, List.not_mem_nil, or_false] at hm
      rcases hm with rfl | rfl
      · exact ⟨.ring (3 + d1), .tup (st_at eq1 (by wtm_at "sm")) (.cons (.str _) (.cons (.int _) .nil)), ⟨by omega, by omega⟩, of_decide_eq_false s_rl⟩
      · exact ⟨.tree (List.replicate (1 + d2).toNat 0), .tup (st_at eq4 (by wtm_at "sm")) (.cons (.str _) (.cons (dpI_at eq3 (by wtm_at "sm")) .nil)), tree0 (by omega) (by omega), of_decide_eq_false s_tl⟩
    wtm_at "s"
    refine forL (sl eq5) (fun j σ' H' => Same G6 H' ∧ ∃ k9 k10, σ' = [some (.ref a), some (.int cell), some (.ref pu), some (.ref nt), some (.ref wy), some (.int far), some (.ref so), some (.int m), some (.ref bd), k9, k10, k11, k12]) ⟨Same.refl _, _, _, rfl⟩ (fun j σ' H' _ e => e.1.seq (sl eq5)) ?_ ?_
    · rintro j x σ' G7 hx ⟨g7, k9, k10, rfl⟩
      obtain ⟨N, dN, ok, hk⟩ := all j x hx
      wtm_at "s"
      refine k_listN (ys := zs) (by wtm_at "sq") (fun hd G8 nhd g8 ehd => ?_)
      have dHd : Dp K G8 (.ref hd) (dPairs bs) := .lst (sl ehd) (by wtm_at "dp")
      wtm_at "s"
      refine lc_growR (by decide) (fun _ => some (V.str (Str.ofString "net"))) ?_ (fun D G9 nD g9 eD => ?_)
      · intro i H' hi sm R R0 h1 h2
        wtm_at "s"
        exact ⟨_, _, _, rfl, _, N, bs, rfl, by wtm_at "dp", ok, by wtm_at "dp", by omega, .inl ⟨hk, fun H'' s'' => h1 _ _ rfl s''⟩⟩
      · have eD' : G9 D = some (.lst [.str (Str.ofString "net"), .str (Str.ofString "net")]) := eD
        wtm_at "s"
        refine kL (by simp) (fun o1 GA no1 gA eo1 => ?_)
        refine k_neD0 (.lst (sl_at eD' (by wtm_at "sm")) (.cons (.str _) (.cons (.str _) .nil))) (.lst (sl eo1) (.cons (.str _) (.cons (.str _) .nil))) sh_nets (by decide) ?_
        wtm_at "s"
        refine k_neD0 (n := 4) (c := dPairs bs) (by wtm_at "dp") (by wtm_at "dp") (sh_pairs _) (by decide) ?_
        wtm_at "s"
        exact ⟨by wtm_at "sm", _, _, rfl⟩
    · rintro σ' G7 ⟨g7, k9, k10, rfl⟩
      clear all
      wtm_at "s"
      refine k_listN (ys := zs) (by wtm_at "sq") (fun hd G8 nhd g8 ehd => ?_)
      have dHd : Dp K G8 (.ref hd) (dPairs bs) := .lst (sl ehd) (by wtm_at "dp")
      wtm_at "s"
      refine forR (fun j σ' H' => Same G8 H' ∧ ∃ k11 k12, σ' = [some (.ref a), some (.int cell), some (.ref pu), some (.ref nt), some (.ref wy), some (.int far), some (.ref so), some (.int m), some (.ref bd), k9, some (.ref hd), k11, k12]) ⟨Same.refl _, _, _, rfl⟩ ?_ ?_
      · rintro j σ' G9 hj ⟨g9, k11, k12, rfl⟩
        wtm_at "s"
        refine ⟨_, _, _, rfl, _, .line n, bs, rfl, by wtm_at "dp", ⟨n0, n1⟩, by wtm_at "dp", by omega, .inr ⟨m, rfl, fb, fun GA gA => ?_⟩⟩
        wtm_at "s"
        refine k_neD0 (n := 4) (.int _) (.int _) sh_int (by decide) ?_
        wtm_at "s"
        refine k_neD0 (n := 4) (c := dPairs bs) (by wtm_at "dp") (by wtm_at "dp") (sh_pairs _) (by decide) ?_
        wtm_at "s"
        exact ⟨by wtm_at "sm", _, _, rfl⟩
      · rintro σ' G9 ⟨g9, k11, k12, rfl⟩
        exact ⟨by wtm_at "sm", _, rfl, rfl⟩
  · wtm_at "s"
    refine ⟨_, _, rfl, pu, _, 2, rfl, rfl, LX, by omega, by decide, by decide, fun r2 HY r20 r21 LY SY => ?_⟩
    have SW : Same (hid [pu] HW) (hid [pu] HY) := (hid_mono sX).trans SY
    have eY := at_same eX SY
    wtm_at "s"
    refine k_it (fun c1 => ?_) (fun c1 => ?_)
    · wtm_at "s"
      refine k_it (fun c2 => ?_) (fun c2 => ?_)
      · wtm_at "s"
        refine ⟨_, _, rfl, pu, _, 5, rfl, rfl, LY, by omega, by decide, by decide, fun r HZ r0 r1 LZ SZ => ?_⟩
        obtain ⟨b, bx, by_, hat2, eb2, hbad2⟩ := pick r r0 r1
        have eKZ : hid [pu] HZ so = some (.lst [V.ref t1, .ref t2, .ref t3, .ref t4, .ref t5]) := at_same eK (show Same (hid [pu] HK) (hid [pu] HZ) from (show Same (hid [pu] HK) (hid [pu] HW) by wtm_at "sm").trans (SW.trans SZ))
        refine k_ixL (sl (hid_same _ _ _ _ eKZ)) hat2 ?_
        wtm_at "s"
        have eZ := at_same eY SZ
        refine k_setL (hid_same _ _ _ _ eZ) (ixN_last (by omega)) ?_
        refine main _ _ ⟨zs.set (zs.length - 1) (.ref b), bs.set (bs.length - 1) (bx, by_), _, rfl, same_hid_mut (SW.trans SZ) frb, LZ.upd nbd', by omega, by rw [hid_ne nbd', upd_same], ?_, by simpa using lB1, bad_set fb (by omega)⟩
        rw [List.map_set, lB]
        exact dpa_set (dpP_at eb2 (by wtm_at "sm")) _ dB
      · first | refine k_next ?_ | refine iteF (k_next ?_)
        exact main _ _ ⟨zs, bs, _, rfl, SW, LY, by omega, eY, dB, lB1, fb⟩
    · first | refine k_next ?_ | refine iteF (k_next ?_)
      exact main _ _ ⟨zs, bs, _, rfl, SW, LY, by omega, eY, dB, lB1, fb⟩
theorem ok_law (T : Txt K mg A) : FnOk P w K mg base CX0 6 A.a_law A.d_law ["_law_script"] (sp_law K) := by
  refine T.F_law.ok sc_law (fun vs H Q E h => by obtain ⟨a, ns, rfl, _⟩ := h; rfl) (fun cdv A0 outer s H vs Q E hr h => ?_)
  obtain ⟨a, ns, rfl, h⟩ := h
  exact ⟨t_law K A, (pss_cons (ps_for PassesOwn.never rfl (pi_list (pe_op op_cat (pe_lst (pa_cons pe_int pa_nil)) (pe_slice sl_list (pv 0) po_none (po_some pe_int)))) (pg_name (i := 1) sc_law.nd rfl (Or.inl rfl))
      (pss_cons (ps_set (i := 2) sc_law.nd rfl (Or.inl rfl) (pe_call (ok_law_left T) (hr.mono (by decide)) (by rfl) T.g_law_left T.F_law_left.kp T.b_law_left .nil pass0 (pa_cons (pe_lst (pa_cons (pv 1) pa_nil)) (pa_cons pe_int pa_nil))))
      (pss_cons (ps_set (i := 3) sc_law.nd rfl (Or.inl rfl) (pe_call (ok_law_line T) (hr.mono (by decide)) (by rfl) T.g_law_line T.F_law_line.kp T.b_law_line .nil pass0 (pa_cons (pv 2) pa_nil)))
      (pss_cons (ps_set (i := 4) sc_law.nd rfl (Or.inl rfl) (pe_op op_cat (pe_slice sl_list (pe_call (ok_law_ways T) (hr.mono (by decide)) (by rfl) T.g_law_ways T.F_law_ways.kp T.b_law_ways .nil pass0 (pa_cons (pv 2) (pa_cons (pe_ix ix_tup (pv 3) pe_int (fun _ _ => rfl)) pa_nil))) po_none (po_some pe_int)) (pe_lst (pa_cons (pe_tup (pa_cons pe_int (pa_cons pe_int pa_nil))) pa_nil))))
      (pss_cons (ps_set (i := 5) sc_law.nd rfl (Or.inl rfl) (pe_call (ok_law_draw T) (hr.mono (by decide)) (by rfl) T.g_law_draw T.F_law_draw.kp T.b_law_draw .nil pass0 (pa_cons (pv 2) (pa_cons (pe_op op_pow pe_int pe_int) pa_nil))))
      (pss_cons (ps_set (i := 6) sc_law.nd rfl (Or.inl rfl) (pe_lst (pa_cons (pe_tup (pa_cons pe_int (pa_cons pe_int pa_nil))) (pa_cons (pe_tup (pa_cons (pe_un un_neg pe_int) (pa_cons pe_int pa_nil))) (pa_cons (pe_tup (pa_cons pe_int (pa_cons (pe_ix ix_tup (pv 3) pe_int (fun _ _ => rfl)) pa_nil))) (pa_cons (pe_tup (pa_cons (pe_op op_add (pe_ix ix_tup (pv 3) pe_int (fun _ _ => rfl)) (pv 5)) (pa_cons pe_int pa_nil))) (pa_cons (pe_tup (pa_cons pe_int (pa_cons (pe_op op_sub (pe_un un_neg pe_int) (pv 5)) pa_nil))) pa_nil)))))))
      (pss_cons (ps_set (i := 7) sc_law.nd rfl (Or.inl rfl) (pe_call (ok_law_draw T) (hr.mono (by decide)) (by rfl) T.g_law_draw T.F_law_draw.kp T.b_law_draw .nil pass0 (pa_cons (pv 2) (pa_cons (pe_callB q_len (by rfl) T.z_len (by decide +kernel) (pa_cons (pv 4) pa_nil)) pa_nil))))
      (pss_cons (ps_set (i := 8) sc_law.nd rfl (Or.inl rfl) (pe_op op_cat (pe_op op_cat (pe_slice sl_list (pv 4) po_none (po_some (pv 7))) (pe_lst (pa_cons (pe_ix ix_list (pv 6) (pe_call (ok_law_draw T) (hr.mono (by decide)) (by rfl) T.g_law_draw T.F_law_draw.kp T.b_law_draw .nil pass0 (pa_cons (pv 2) (pa_cons pe_int pa_nil))) (fun _ _ => rfl)) pa_nil))) (pe_slice sl_list (pv 4) (po_some (pe_op op_add (pv 7) pe_int)) po_none)))
      (pss_cons (ps_if (PW.pt (pw_and (pt_cmpR op_eq (pe_call (ok_law_draw T) (hr.mono (by decide)) (by rfl) T.g_law_draw T.F_law_draw.kp T.b_law_draw .nil pass0 (pa_cons (pv 2) (pa_cons pe_int pa_nil))) pe_int (nomark _)) (pw_and1 (pt_cmpR op_lt (pe_op op_add (pv 7) pe_int) (pe_callB q_len (by rfl) T.z_len (by decide +kernel) (pa_cons (pv 8) pa_nil)) (nomark _))))) (pss_one (ps_asg (pe_ix ix_list (pv 6) (pe_call (ok_law_draw T) (hr.mono (by decide)) (by rfl) T.g_law_draw T.F_law_draw.kp T.b_law_draw .nil pass0 (pa_cons (pv 2) (pa_cons pe_int pa_nil))) (fun _ _ => rfl)) (pg_sub (pv 8) (pe_un un_neg pe_int) set_list))) pss_nil)
      (pss_cons (ps_for PassesOwn.never rfl (pi_list (pe_lst (pa_cons (pe_tup (pa_cons pe_str (pa_cons (pe_op op_add pe_int (pe_call (ok_law_draw T) (hr.mono (by decide)) (by rfl) T.g_law_draw T.F_law_draw.kp T.b_law_draw .nil pass0 (pa_cons (pv 2) (pa_cons pe_int pa_nil)))) pa_nil))) (pa_cons (pe_tup (pa_cons pe_str (pa_cons (pe_op op_rep (pe_lst (pa_cons pe_int pa_nil)) (pe_op op_add pe_int (pe_call (ok_law_draw T) (hr.mono (by decide)) (by rfl) T.g_law_draw T.F_law_draw.kp T.b_law_draw .nil pass0 (pa_cons (pv 2) (pa_cons pe_int pa_nil))))) pa_nil))) pa_nil)))) (pg_name (i := 9) sc_law.nd rfl (Or.inr rfl))
      (pss_cons (ps_set (i := 10) sc_law.nd rfl (Or.inr rfl) (pe_callTy q_listOf (by rfl) T.z_list (by decide +kernel) (pa_cons (pv 8) pa_nil)))
      (pss_one (ps_if (PW.pt (pw_or (pt_cmpR (op_neD hr.units) (pe_lc (own := [("_law_which", 11)]) (by rfl) sc_law.nd (pi_range1 (by rfl) T.z_range (pa_cons pe_int pa_nil)) (blkOk_by (own := [("_law_which", 11)]) (N := ["_law_script", "_law_cell", "_law_left_here", "_law_net", "_law_ways_here", "_law_far", "_law_some", "_law_at", "_law_bad", "_law_other", "_law_handed", "_law_which", "_law_answer"]) (sc := defScope s_law) (by decide +kernel)) (fun _ _ _ _ _ => (pg_name (i := 11) sc_law.nd rfl (Or.inl rfl))) (fun _ _ _ _ _ => pts_nil) (fun _ _ _ _ _ => (pe_call (ok_law_refused T) (hr.mono (by decide)) (by rfl) T.g_law_refused T.F_law_refused.kp T.b_law_refused .nil pass0 (pa_cons (pv 9) (pa_cons (pv 10) (pa_cons (pv 11) pa_nil)))))) (pe_lst (pa_cons pe_str (pa_cons pe_str pa_nil))) (nomark _)) (pw_or1 (pt_cmpR (op_neD hr.units) (pv 10) (pv 8) (nomark _))))) (pss_one (ps_ret pe_bl)) pss_nil))))
      (pss_cons (ps_set (i := 10) sc_law.nd rfl (Or.inr rfl) (pe_callTy q_listOf (by rfl) T.z_list (by decide +kernel) (pa_cons (pv 8) pa_nil)))
      (pss_one (ps_for PassesOwn.never rfl (pi_range1 (by rfl) T.z_range (pa_cons pe_int pa_nil)) (pg_name (i := 11) sc_law.nd rfl (Or.inl rfl))
      (pss_cons (ps_set (i := 12) sc_law.nd rfl (Or.inl rfl) (pe_call (ok_law_refused T) (hr.mono (by decide)) (by rfl) T.g_law_refused T.F_law_refused.kp T.b_law_refused .nil pass0 (pa_cons (pv 3) (pa_cons (pv 10) (pa_cons (pv 11) pa_nil)))))
      (pss_one (ps_if (PW.pt (pw_or (pt_val (pe_callB q_isi (by rfl) T.z_isinstance (by decide +kernel) (pa_cons (pv 12) (pa_cons (pe_bltn (v := .ty "bool") (by rfl) T.z_bool (by decide +kernel) rfl) pa_nil)))) (pw_or (pt_cmpR (op_neD hr.units) (pv 12) (pv 7) (nomark _)) (pw_or1 (pt_cmpR (op_neD hr.units) (pv 10) (pv 8) (nomark _)))))) (pss_one (ps_ret pe_bl)) pss_nil))))))))))))))))
      (pss_one (ps_ret pe_bl))), pure_law T ⟨a, ns, rfl, h⟩⟩

theorem all_mk {l : PySem.W.OpenLaw} {w : World} {K : PySem.W.Frag} {h : Heap} {mg : Str → Option Value} {fa : Addr} {f0 f1 f2 f3 f4 f5 f6 f7 f8 f9 f10 f11 f12 f13 f14 f15 f16 f17 : Addr} (X : K.In h) (G : h.Ns mainGlobals mg) (hfa : mg "law" = some (.ref fa))
    {od0 an0 od1 an1 od2 an2 od3 an3 od4 an4 od5 an5 od6 an6 od7 an7 od8 an8 od9 an9 od10 an10 od11 an11 od12 an12 od13 an13 od14 an14 od15 an15 od16 an16 od17 an17 : Option Addr} {sl0 sl1 sl2 sl3 sl4 sl5 sl6 sl7 sl8 sl9 sl10 sl11 sl12 sl13 sl14 sl15 sl16 sl17 : Array (Option Value)} {oc0 kV0 dc0 pm0 cd0 ct0 oc1 kV1 dc1 pm1 cd1 ct1 oc2 kV2 dc2 pm2 cd2 ct2 oc3 kV3 dc3 pm3 cd3 ct3 oc4 kV4 dc4 pm4 cd4 ct4 oc5 kV5 dc5 pm5 cd5 ct5 oc6 kV6 dc6 pm6 cd6 ct6 oc7 kV7 dc7 pm7 cd7 ct7 oc8 kV8 dc8 pm8 cd8 ct8 oc9 kV9 dc9 pm9 cd9 ct9 oc10 kV10 dc10 pm10 cd10 ct10 oc11 kV11 dc11 pm11 cd11 ct11 oc12 kV12 dc12 pm12 cd12 ct12 oc13 kV13 dc13 pm13 cd13 ct13 oc14 kV14 dc14 pm14 cd14 ct14 oc15 kV15 dc15 pm15 cd15 ct15 oc16 kV16 dc16 pm16 cd16 ct16 oc17 kV17 dc17 pm17 cd17 ct17 : Value}
    {tk0 : Tok}
    (a0 : PySem.W.nsIn K mainGlobals "is_tree" = some (some (.ref f0))) (l0 : K.lookup f0 = some ⟨oc0, od0, .func (PySem.W.fnOf "is_tree" "is_tree" (defArgs s_is_tree) (defBody s_is_tree) (defScope s_is_tree) .none kV0 dc0 pm0 an0 cd0 ct0), sl0⟩) (c0 : PySem.W.codeIn K cd0 "is_tree" = true) (k0 : PySem.W.keepIn K (.ref f0) = true)
    (a1 : PySem.W.nsIn K mainGlobals "look_net" = some (some (.ref f1))) (l1 : K.lookup f1 = some ⟨oc1, od1, .func (PySem.W.fnOf "look_net" "look_net" (defArgs s_look_net) (defBody s_look_net) (defScope s_look_net) .none kV1 dc1 pm1 an1 cd1 ct1), sl1⟩) (c1 : PySem.W.codeIn K cd1 "look_net" = true) (k1 : PySem.W.keepIn K (.ref f1) = true)
    (a2 : PySem.W.nsIn K mainGlobals "must_be_kind" = some (some (.ref f2))) (l2 : K.lookup f2 = some ⟨oc2, od2, .func (PySem.W.fnOf "must_be_kind" "must_be_kind" (defArgs s_must_be_kind) (defBody s_must_be_kind) (defScope s_must_be_kind) .none kV2 dc2 pm2 an2 cd2 ct2), sl2⟩) (c2 : PySem.W.codeIn K cd2 "must_be_kind" = true) (k2 : PySem.W.keepIn K (.ref f2) = true)
    (a3 : PySem.W.nsIn K mainGlobals "places_of" = some (some (.ref f3))) (l3 : K.lookup f3 = some ⟨oc3, od3, .func (PySem.W.fnOf "places_of" "places_of" (defArgs s_places_of) (defBody s_places_of) (defScope s_places_of) .none kV3 dc3 pm3 an3 cd3 ct3), sl3⟩) (c3 : PySem.W.codeIn K cd3 "places_of" = true) (k3 : PySem.W.keepIn K (.ref f3) = true)
    (a4 : PySem.W.nsIn K mainGlobals "is_way" = some (some (.ref f4))) (l4 : K.lookup f4 = some ⟨oc4, od4, .func (PySem.W.fnOf "is_way" "is_way" (defArgs s_is_way) (defBody s_is_way) (defScope s_is_way) .none kV4 dc4 pm4 an4 cd4 ct4), sl4⟩) (c4 : PySem.W.codeIn K cd4 "is_way" = true) (k4 : PySem.W.keepIn K (.ref f4) = true)
    (a5 : PySem.W.nsIn K mainGlobals "must_be_ways" = some (some (.ref f5))) (l5 : K.lookup f5 = some ⟨oc5, od5, .func (PySem.W.fnOf "must_be_ways" "must_be_ways" (defArgs s_must_be_ways) (defBody s_must_be_ways) (defScope s_must_be_ways) .none kV5 dc5 pm5 an5 cd5 ct5), sl5⟩) (c5 : PySem.W.codeIn K cd5 "must_be_ways" = true) (k5 : PySem.W.keepIn K (.ref f5) = true)
    (a6 : PySem.W.nsIn K mainGlobals "line_hues" = some (some (.ref f6))) (l6 : K.lookup f6 = some ⟨oc6, od6, .func (PySem.W.fnOf "line_hues" "line_hues" (defArgs s_line_hues) (defBody s_line_hues) (defScope s_line_hues) .none kV6 dc6 pm6 an6 cd6 ct6), sl6⟩) (c6 : PySem.W.codeIn K cd6 "line_hues" = true) (k6 : PySem.W.keepIn K (.ref f6) = true)
    (a7 : PySem.W.nsIn K mainGlobals "shows" = some (some (.ref f7))) (l7 : K.lookup f7 = some ⟨oc7, od7, .func (PySem.W.fnOf "shows" "shows" (defArgs s_shows) (defBody s_shows) (defScope s_shows) .none kV7 dc7 pm7 an7 cd7 ct7), sl7⟩) (c7 : PySem.W.codeIn K cd7 "shows" = true) (k7 : PySem.W.keepIn K (.ref f7) = true)
    (a8 : PySem.W.nsIn K mainGlobals "_law_mix" = some (some (.ref f8))) (l8 : K.lookup f8 = some ⟨oc8, od8, .func (PySem.W.fnOf "_law_mix" "_law_mix" (defArgs s_law_mix) (defBody s_law_mix) (defScope s_law_mix) .none kV8 dc8 pm8 an8 cd8 ct8), sl8⟩) (c8 : PySem.W.codeIn K cd8 "_law_mix" = true) (k8 : PySem.W.keepIn K (.ref f8) = true)
    (a9 : PySem.W.nsIn K mainGlobals "_law_cell_at" = some (some (.ref f9))) (l9 : K.lookup f9 = some ⟨oc9, od9, .func (PySem.W.fnOf "_law_cell_at" "_law_cell_at" (defArgs s_law_cell_at) (defBody s_law_cell_at) (defScope s_law_cell_at) .none kV9 dc9 pm9 an9 cd9 ct9), sl9⟩) (c9 : PySem.W.codeIn K cd9 "_law_cell_at" = true) (k9 : PySem.W.keepIn K (.ref f9) = true)
    (a10 : PySem.W.nsIn K mainGlobals "_law_left" = some (some (.ref f10))) (l10 : K.lookup f10 = some ⟨oc10, od10, .func (PySem.W.fnOf "_law_left" "_law_left" (defArgs s_law_left) (defBody s_law_left) (defScope s_law_left) .none kV10 dc10 pm10 an10 cd10 ct10), sl10⟩) (c10 : PySem.W.codeIn K cd10 "_law_left" = true) (k10 : PySem.W.keepIn K (.ref f10) = true)
    (a11 : PySem.W.nsIn K mainGlobals "_law_draw" = some (some (.ref f11))) (l11 : K.lookup f11 = some ⟨oc11, od11, .func (PySem.W.fnOf "_law_draw" "_law_draw" (defArgs s_law_draw) (defBody s_law_draw) (defScope s_law_draw) .none kV11 dc11 pm11 an11 cd11 ct11), sl11⟩) (c11 : PySem.W.codeIn K cd11 "_law_draw" = true) (k11 : PySem.W.keepIn K (.ref f11) = true)
    (a12 : PySem.W.nsIn K mainGlobals "_law_line" = some (some (.ref f12))) (l12 : K.lookup f12 = some ⟨oc12, od12, .func (PySem.W.fnOf "_law_line" "_law_line" (defArgs s_law_line) (defBody s_law_line) (defScope s_law_line) .none kV12 dc12 pm12 an12 cd12 ct12), sl12⟩) (c12 : PySem.W.codeIn K cd12 "_law_line" = true) (k12 : PySem.W.keepIn K (.ref f12) = true)
    (a13 : PySem.W.nsIn K mainGlobals "_law_way" = some (some (.ref f13))) (l13 : K.lookup f13 = some ⟨oc13, od13, .func (PySem.W.fnOf "_law_way" "_law_way" (defArgs s_law_way) (defBody s_law_way) (defScope s_law_way) .none kV13 dc13 pm13 an13 cd13 ct13), sl13⟩) (c13 : PySem.W.codeIn K cd13 "_law_way" = true) (k13 : PySem.W.keepIn K (.ref f13) = true)
    (a14 : PySem.W.nsIn K mainGlobals "_law_short_way" = some (some (.ref f14))) (l14 : K.lookup f14 = some ⟨oc14, od14, .func (PySem.W.fnOf "_law_short_way" "_law_short_way" (defArgs s_law_short_way) (defBody s_law_short_way) (defScope s_law_short_way) .none kV14 dc14 pm14 an14 cd14 ct14), sl14⟩) (c14 : PySem.W.codeIn K cd14 "_law_short_way" = true) (k14 : PySem.W.keepIn K (.ref f14) = true)
    (a15 : PySem.W.nsIn K mainGlobals "_law_ways" = some (some (.ref f15))) (l15 : K.lookup f15 = some ⟨oc15, od15, .func (PySem.W.fnOf "_law_ways" "_law_ways" (defArgs s_law_ways) (defBody s_law_ways) (defScope s_law_ways) .none kV15 dc15 pm15 an15 cd15 ct15), sl15⟩) (c15 : PySem.W.codeIn K cd15 "_law_ways" = true) (k15 : PySem.W.keepIn K (.ref f15) = true)
    (a16 : PySem.W.nsIn K mainGlobals "_law_refused" = some (some (.ref f16))) (l16 : K.lookup f16 = some ⟨oc16, od16, .func (PySem.W.fnOf "_law_refused" "_law_refused" (defArgs s_law_refused) (defBody s_law_refused) (defScope s_law_refused) .none kV16 dc16 pm16 an16 cd16 ct16), sl16⟩) (c16 : PySem.W.codeIn K cd16 "_law_refused" = true) (k16 : PySem.W.keepIn K (.ref f16) = true)
    (a17 : PySem.W.nsIn K mainGlobals "law" = some (some (.ref f17))) (l17 : K.lookup f17 = some ⟨oc17, od17, .func (PySem.W.fnOf "law" "law" (defArgs s_law) (defBody s_law) (defScope s_law) .none kV17 dc17 pm17 an17 cd17 ct17), sl17⟩) (c17 : PySem.W.codeIn K cd17 "law" = true) (k17 : PySem.W.keepIn K (.ref f17) = true)
    (e0 : PySem.W.nsIn K mainGlobals "MOST_PLACES" = some (some (.int 60 tk0)))
    (z0 : PySem.W.nsIn K mainGlobals "ValueError" = some none)
    (z1 : PySem.W.nsIn K mainGlobals "bool" = some none)
    (z2 : PySem.W.nsIn K mainGlobals "int" = some none)
    (z3 : PySem.W.nsIn K mainGlobals "isinstance" = some none)
    (z4 : PySem.W.nsIn K mainGlobals "len" = some none)
    (z5 : PySem.W.nsIn K mainGlobals "list" = some none)
    (z6 : PySem.W.nsIn K mainGlobals "max" = some none)
    (z7 : PySem.W.nsIn K mainGlobals "min" = some none)
    (z8 : PySem.W.nsIn K mainGlobals "range" = some none)
    {cc0 cc1 cc2 cc3 cc4 cc5 cc6 : Addr}
    (kk0 : PySem.W.nsIn K mainGlobals "TieError" = some (some (.ref cc0))) (xx0 : exkB K cc0 = true) (tt0 : PySem.W.typeIn K (.ref cc0) = some (.type "type"))
    (kk1 : PySem.W.nsIn K mainGlobals "NoNet" = some (some (.ref cc1))) (xx1 : exkB K cc1 = true) (tt1 : PySem.W.typeIn K (.ref cc1) = some (.type "type"))
    (kk2 : PySem.W.nsIn K mainGlobals "OtherNet" = some (some (.ref cc2))) (xx2 : exkB K cc2 = true) (tt2 : PySem.W.typeIn K (.ref cc2) = some (.type "type"))
    (kk3 : PySem.W.nsIn K mainGlobals "NoWay" = some (some (.ref cc3))) (xx3 : exkB K cc3 = true) (tt3 : PySem.W.typeIn K (.ref cc3) = some (.type "type"))
    (kk4 : PySem.W.nsIn K mainGlobals "TooMany" = some (some (.ref cc4))) (xx4 : exkB K cc4 = true) (tt4 : PySem.W.typeIn K (.ref cc4) = some (.type "type"))
    (kk5 : PySem.W.nsIn K mainGlobals "NoHues" = some (some (.ref cc5))) (xx5 : exkB K cc5 = true) (tt5 : PySem.W.typeIn K (.ref cc5) = some (.type "type"))
    (kk6 : PySem.W.nsIn K mainGlobals "NoPlace" = some (some (.ref cc6))) (xx6 : exkB K cc6 = true) (tt6 : PySem.W.typeIn K (.ref cc6) = some (.type "type"))
    {nm3 q3 : Str} {N3 : Addr} {bs3 : List Value} {sn3 : List Str} {su3 : List Value} {ab3 : Bool} {co3 : Option Bool} {dd3 : Option Addr} {ma3 mb3 mc3 md3 me3 : Option Value} {fi3 : Addr} {odi3 ani3 : Option Addr} {sli3 : Array (Option Value)} {oci3 kVi3 dci3 pmi3 cdi3 cti3 : Value}
    (la3 : K.lookup cc3 = some (excClassObj nm3 q3 cc3 N3 bs3 [.ref cc0, .type "ValueError", .type "Exception", .type "BaseException", .type "object"] true sn3 su3 ab3 co3 dd3 ma3 mb3 mc3 md3 me3 "ValueError.__new__"))
    (sa3 : PySem.W.findIn K (.ref cc3) "__setattr__" = some (some (.builtin "object.__setattr__"))) (ee3 : PySem.W.subIn K (.ref cc3) (.type "BaseException") = some true) (ke3 : PySem.W.keepIn K (.ref cc3) = true)
    (ai3 : PySem.W.findIn K (.ref cc3) "__init__" = some (some (.ref fi3))) (ti3 : PySem.W.typeIn K (.ref fi3) = some (.type "function")) (li3 : K.lookup fi3 = some ⟨oci3, odi3, .func (PySem.W.fnOf "__init__" "NoWay.__init__" (defArgs s_init_NoWay) (defBody s_init_NoWay) (defScope s_init_NoWay) .none kVi3 dci3 pmi3 ani3 cdi3 cti3), sli3⟩) (ci3 : PySem.W.codeIn K cdi3 "NoWay.__init__" = true) (ki3 : PySem.W.keepIn K (.ref fi3) = true) (nf3 : PySem.W.findIn K (.ref cc3) "at" = some none)
    {nm5 q5 : Str} {N5 : Addr} {bs5 : List Value} {sn5 : List Str} {su5 : List Value} {ab5 : Bool} {co5 : Option Bool} {dd5 : Option Addr} {ma5 mb5 mc5 md5 me5 : Option Value} {fi5 : Addr} {odi5 ani5 : Option Addr} {sli5 : Array (Option Value)} {oci5 kVi5 dci5 pmi5 cdi5 cti5 : Value}
    (la5 : K.lookup cc5 = some (excClassObj nm5 q5 cc5 N5 bs5 [.ref cc0, .type "ValueError", .type "Exception", .type "BaseException", .type "object"] true sn5 su5 ab5 co5 dd5 ma5 mb5 mc5 md5 me5 "ValueError.__new__"))
    (sa5 : PySem.W.findIn K (.ref cc5) "__setattr__" = some (some (.builtin "object.__setattr__"))) (ee5 : PySem.W.subIn K (.ref cc5) (.type "BaseException") = some true) (ke5 : PySem.W.keepIn K (.ref cc5) = true)
    (ai5 : PySem.W.findIn K (.ref cc5) "__init__" = some (some (.ref fi5))) (ti5 : PySem.W.typeIn K (.ref fi5) = some (.type "function")) (li5 : K.lookup fi5 = some ⟨oci5, odi5, .func (PySem.W.fnOf "__init__" "NoHues.__init__" (defArgs s_init_NoHues) (defBody s_init_NoHues) (defScope s_init_NoHues) .none kVi5 dci5 pmi5 ani5 cdi5 cti5), sli5⟩) (ci5 : PySem.W.codeIn K cdi5 "NoHues.__init__" = true) (ki5 : PySem.W.keepIn K (.ref fi5) = true) (nf5 : PySem.W.findIn K (.ref cc5) "place" = some none)
    (rr0 : PySem.W.readsIn K cc0 (.type "type") = true) (rr1 : PySem.W.specialIn K (.ref cc0) "__getattribute__" = some (some (.builtin "type.__getattribute__"))) (rr2 : PySem.W.findCls K (.ref cc0) (.type "type") "__init__" = some (.val (.builtin "ValueError.__init__")))
    (uu3 : PySem.W.subIn K (.ref cc3) (.ref cc0) = some true)
    (qq3_0 : PySem.W.kitOne K (.ref cc3) (.ref cc5) = some false)
    (qq3_1 : PySem.W.kitOne K (.ref cc3) (.ref cc1) = some false)
    (qq3_2 : PySem.W.kitOne K (.ref cc3) (.ref cc6) = some false)
    (qq3_3 : PySem.W.kitOne K (.ref cc3) (.ref cc3) = some true)
    (qq3_4 : PySem.W.kitOne K (.ref cc3) (.ref cc2) = some false)
    (qq3_5 : PySem.W.kitOne K (.ref cc3) (.ref cc4) = some false)
    (qq3_6 : PySem.W.kitOne K (.ref cc3) (.type "ValueError") = some true)
    (ex2 : PySem.W.excIn K cc2 [.type "ValueError", .type "Exception", .type "BaseException", .type "object"] "ValueError.__new__" = true) (pp2 : PySem.W.keepIn K (.ref cc2) = true)
    (uu2 : PySem.W.subIn K (.ref cc2) (.ref cc0) = some true)
    (qq2_0 : PySem.W.kitOne K (.ref cc2) (.ref cc5) = some false)
    (qq2_1 : PySem.W.kitOne K (.ref cc2) (.ref cc1) = some false)
    (qq2_2 : PySem.W.kitOne K (.ref cc2) (.ref cc6) = some false)
    (qq2_3 : PySem.W.kitOne K (.ref cc2) (.ref cc3) = some false)
    (qq2_4 : PySem.W.kitOne K (.ref cc2) (.ref cc2) = some true)
    (qq2_5 : PySem.W.kitOne K (.ref cc2) (.ref cc4) = some false)
    (qq2_6 : PySem.W.kitOne K (.ref cc2) (.type "ValueError") = some true)
    : ∃ fd : FuncData, (∀ (s : Shared) (v : Value), BindsTo s fd ⟨[v], []⟩ [("_law_script", v)]) ∧ ∀ base : Heap, K.In base → base.Ns mainGlobals mg → FnOk l.prog w K mg base CX0 6 fa fd ["_law_script"] (sp_law K) := by
  have e := hfa.symm.trans (PySem.W.mg_of X G a17)
  cases e
  have F0 := fun_mk (st := s_is_tree) l0 c0 k0
  have b0 := F0.binds (ps := ["parents"]) fun _ _ _ _ _ _ us hl => match us, hl with | [_], _ => rfl
  have F1 := fun_mk (st := s_look_net) l1 c1 k1
  have b1 := F1.binds (ps := ["net"]) fun _ _ _ _ _ _ us hl => match us, hl with | [_], _ => rfl
  have F2 := fun_mk (st := s_must_be_kind) l2 c2 k2
  have b2 := F2.binds (ps := ["net", "kind"]) fun _ _ _ _ _ _ us hl => match us, hl with | [_, _], _ => rfl
  have F3 := fun_mk (st := s_places_of) l3 c3 k3
  have b3 := F3.binds (ps := ["net"]) fun _ _ _ _ _ _ us hl => match us, hl with | [_], _ => rfl
  have F4 := fun_mk (st := s_is_way) l4 c4 k4
  have b4 := F4.binds (ps := ["net", "way"]) fun _ _ _ _ _ _ us hl => match us, hl with | [_, _], _ => rfl
  have F5 := fun_mk (st := s_must_be_ways) l5 c5 k5
  have b5 := F5.binds (ps := ["net", "ways"]) fun _ _ _ _ _ _ us hl => match us, hl with | [_, _], _ => rfl
  have F6 := fun_mk (st := s_line_hues) l6 c6 k6
  have b6 := F6.binds (ps := ["net", "ways"]) fun _ _ _ _ _ _ us hl => match us, hl with | [_, _], _ => rfl
  have F7 := fun_mk (st := s_shows) l7 c7 k7
  have b7 := F7.binds (ps := ["net", "ways", "lines"]) fun _ _ _ _ _ _ us hl => match us, hl with | [_, _, _], _ => rfl
  have F8 := fun_mk (st := s_law_mix) l8 c8 k8
  have b8 := F8.binds (ps := ["_law_number", "_law_k"]) fun _ _ _ _ _ _ us hl => match us, hl with | [_, _], _ => rfl
  have F9 := fun_mk (st := s_law_cell_at) l9 c9 k9
  have b9 := F9.binds (ps := ["_law_script", "_law_k"]) fun _ _ _ _ _ _ us hl => match us, hl with | [_, _], _ => rfl
  have F10 := fun_mk (st := s_law_left) l10 c10 k10
  have b10 := F10.binds (ps := ["_law_script", "_law_k"]) fun _ _ _ _ _ _ us hl => match us, hl with | [_, _], _ => rfl
  have F11 := fun_mk (st := s_law_draw) l11 c11 k11
  have b11 := F11.binds (ps := ["_law_left_here", "_law_base"]) fun _ _ _ _ _ _ us hl => match us, hl with | [_, _], _ => rfl
  have F12 := fun_mk (st := s_law_line) l12 c12 k12
  have b12 := F12.binds (ps := ["_law_left_here"]) fun _ _ _ _ _ _ us hl => match us, hl with | [_], _ => rfl
  have F13 := fun_mk (st := s_law_way) l13 c13 k13
  have b13 := F13.binds (ps := ["_law_left_here", "_law_many"]) fun _ _ _ _ _ _ us hl => match us, hl with | [_, _], _ => rfl
  have F14 := fun_mk (st := s_law_short_way) l14 c14 k14
  have b14 := F14.binds (ps := ["_law_left_here", "_law_many"]) fun _ _ _ _ _ _ us hl => match us, hl with | [_, _], _ => rfl
  have F15 := fun_mk (st := s_law_ways) l15 c15 k15
  have b15 := F15.binds (ps := ["_law_left_here", "_law_many"]) fun _ _ _ _ _ _ us hl => match us, hl with | [_, _], _ => rfl
  have F16 := fun_mk (st := s_law_refused) l16 c16 k16
  have b16 := F16.binds (ps := ["_law_net", "_law_ways_here", "_law_which"]) fun _ _ _ _ _ _ us hl => match us, hl with | [_, _, _], _ => rfl
  have F17 := fun_mk (st := s_law) l17 c17 k17
  have b17 := F17.binds (ps := ["_law_script"]) fun _ _ _ _ _ _ us hl => match us, hl with | [_], _ => rfl
  have Fi3 := fun_mk (st := s_init_NoWay) li3 ci3 ki3
  have bi3 := Fi3.binds (ps := ["self", "at"]) fun _ _ _ _ _ _ us hl => match us, hl with | [_, _], _ => rfl
  have Fi5 := fun_mk (st := s_init_NoHues) li5 ci5 ki5
  have bi5 := Fi5.binds (ps := ["self", "place"]) fun _ _ _ _ _ _ us hl => match us, hl with | [_, _], _ => rfl
  have T : Txt K mg ⟨cc0, cc1, cc2, cc3, cc4, cc5, cc6, fi3, _, fi5, _, f0, _, f1, _, f2, _, f3, _, f4, _, f5, _, f6, _, f7, _, f8, _, f9, _, f10, _, f11, _, f12, _, f13, _, f14, _, f15, _, f16, _, fa, _⟩ :=
    ⟨PySem.W.mg_of X G a0, F0, b0, PySem.W.mg_of X G a1, F1, b1, PySem.W.mg_of X G a2, F2, b2, PySem.W.mg_of X G a3, F3, b3, PySem.W.mg_of X G a4, F4, b4, PySem.W.mg_of X G a5, F5, b5, PySem.W.mg_of X G a6, F6, b6, PySem.W.mg_of X G a7, F7, b7, PySem.W.mg_of X G a8, F8, b8, PySem.W.mg_of X G a9, F9, b9, PySem.W.mg_of X G a10, F10, b10, PySem.W.mg_of X G a11, F11, b11, PySem.W.mg_of X G a12, F12, b12, PySem.W.mg_of X G a13, F13, b13, PySem.W.mg_of X G a14, F14, b14, PySem.W.mg_of X G a15, F15, b15, PySem.W.mg_of X G a16, F16, b16, PySem.W.mg_of X G a17, F17, b17, tok_mk (PySem.W.mg_of X G e0), PySem.W.mg_none_of X G z0, PySem.W.mg_none_of X G z1, PySem.W.mg_none_of X G z2, PySem.W.mg_none_of X G z3, PySem.W.mg_none_of X G z4, PySem.W.mg_none_of X G z5, PySem.W.mg_none_of X G z6, PySem.W.mg_none_of X G z7, PySem.W.mg_none_of X G z8, PySem.W.mg_of X G kk0, exkB_ok xx0, tt0, PySem.W.mg_of X G kk1, exkB_ok xx1, tt1, PySem.W.mg_of X G kk2, exkB_ok xx2, tt2, PySem.W.mg_of X G kk3, exkB_ok xx3, tt3, PySem.W.mg_of X G kk4, exkB_ok xx4, tt4, PySem.W.mg_of X G kk5, exkB_ok xx5, tt5, PySem.W.mg_of X G kk6, exkB_ok xx6, tt6, ⟨⟨nm3, q3, N3, bs3, _, sn3, su3, ab3, co3, dd3, ma3, mb3, mc3, md3, me3, la3, rfl⟩, sa3, ee3, tt3, ke3⟩, ai3, ti3, Fi3, bi3, nf3, ⟨⟨nm5, q5, N5, bs5, _, sn5, su5, ab5, co5, dd5, ma5, mb5, mc5, md5, me5, la5, rfl⟩, sa5, ee5, tt5, ke5⟩, ai5, ti5, Fi5, bi5, nf5, ⟨PySem.W.mg_of X G kk0, rr0, rr1, rr2⟩, uu3, qq3_0, qq3_1, qq3_2, qq3_3, qq3_4, qq3_5, qq3_6, ex2, pp2, uu2, qq2_0, qq2_1, qq2_2, qq2_3, qq2_4, qq2_5, qq2_6⟩
  exact ⟨_, fun s v => .of_eq rfl, fun base _ _ => ok_law T⟩
end Pf
open PySem PySem.W PyProof.Rows
set_option maxHeartbeats 0 in
theorem PySem.Challenge.cw_tiehues_k11_lines_refused_holds : PySem.Challenge.rw_tiehues_k11_lines_refused.Holds := by
  w_on; o_law; k_head; (case hw => w_witness2)
  k_fill
  refine L2.walk_ofK (l := PySem.Challenge.rw_tiehues_k11_lines_refused) (n := 63) (k := 6) (x := "_law_script") (CX := L2.CX0) (sp := Pf.sp_law) rfl (by decide) rfl ⟨rfl, by decide, by decide⟩ (fun w h Y => PySem.W.km_in_of Y) ?F (fun _ _ a ns hl _ hS => ⟨a, ns, rfl, hS, hl, fun _ => rfl⟩) (fun _ _ _ _ h => h)
  case F =>
    intro w mg fa h KX G hmg
    refine' Pf.all_mk KX G hmg ?a0 ?l0 ?c0 ?k0 ?a1 ?l1 ?c1 ?k1 ?a2 ?l2 ?c2 ?k2 ?a3 ?l3 ?c3 ?k3 ?a4 ?l4 ?c4 ?k4 ?a5 ?l5 ?c5 ?k5 ?a6 ?l6 ?c6 ?k6 ?a7 ?l7 ?c7 ?k7 ?a8 ?l8 ?c8 ?k8 ?a9 ?l9 ?c9 ?k9 ?a10 ?l10 ?c10 ?k10 ?a11 ?l11 ?c11 ?k11 ?a12 ?l12 ?c12 ?k12 ?a13 ?l13 ?c13 ?k13 ?a14 ?l14 ?c14 ?k14 ?a15 ?l15 ?c15 ?k15 ?a16 ?l16 ?c16 ?k16 ?a17 ?l17 ?c17 ?k17 ?e0 ?z0 ?z1 ?z2 ?z3 ?z4 ?z5 ?z6 ?z7 ?z8 ?kk0 ?xx0 ?tt0 ?kk1 ?xx1 ?tt1 ?kk2 ?xx2 ?tt2 ?kk3 ?xx3 ?tt3 ?kk4 ?xx4 ?tt4 ?kk5 ?xx5 ?tt5 ?kk6 ?xx6 ?tt6 ?la3 ?sa3 ?ee3 ?ke3 ?ai3 ?ti3 ?li3 ?ci3 ?ki3 ?nf3 ?la5 ?sa5 ?ee5 ?ke5 ?ai5 ?ti5 ?li5 ?ci5 ?ki5 ?nf5 ?rr0 ?rr1 ?rr2 ?uu3 ?qq3_0 ?qq3_1 ?qq3_2 ?qq3_3 ?qq3_4 ?qq3_5 ?qq3_6 ?ex2 ?pp2 ?uu2 ?qq2_0 ?qq2_1 ?qq2_2 ?qq2_3 ?qq2_4 ?qq2_5 ?qq2_6
    (case a0 => k_is); (case l0 => k_is); (case c0 => k_is); (case k0 => k_is); (case a1 => k_is); (case l1 => k_is); (case c1 => k_is); (case k1 => k_is); (case a2 => k_is); (case l2 => k_is); (case c2 => k_is); (case k2 => k_is); (case a3 => k_is); (case l3 => k_is); (case c3 => k_is); (case k3 => k_is); (case a4 => k_is); (case l4 => k_is); (case c4 => k_is); (case k4 => k_is); (case a5 => k_is); (case l5 => k_is); (case c5 => k_is); (case k5 => k_is); (case a6 => k_is); (case l6 => k_is); (case c6 => k_is); (case k6 => k_is); (case a7 => k_is); (case l7 => k_is); (case c7 => k_is); (case k7 => k_is); (case a8 => k_is); (case l8 => k_is); (case c8 => k_is); (case k8 => k_is); (case a9 => k_is); (case l9 => k_is); (case c9 => k_is); (case k9 => k_is); (case a10 => k_is); (case l10 => k_is); (case c10 => k_is); (case k10 => k_is); (case a11 => k_is); (case l11 => k_is); (case c11 => k_is); (case k11 => k_is); (case a12 => k_is); (case l12 => k_is); (case c12 => k_is); (case k12 => k_is); (case a13 => k_is); (case l13 => k_is); (case c13 => k_is); (case k13 => k_is); (case a14 => k_is); (case l14 => k_is); (case c14 => k_is); (case k14 => k_is); (case a15 => k_is); (case l15 => k_is); (case c15 => k_is); (case k15 => k_is); (case a16 => k_is); (case l16 => k_is); (case c16 => k_is); (case k16 => k_is); (case a17 => k_is); (case l17 => k_is); (case c17 => k_is); (case k17 => k_is); (case e0 => k_is); (case z0 => k_is); (case z1 => k_is); (case z2 => k_is); (case z3 => k_is); (case z4 => k_is); (case z5 => k_is); (case z6 => k_is); (case z7 => k_is); (case z8 => k_is); (case kk0 => k_is); (case xx0 => kernel_rfl); (case tt0 => k_is); (case kk1 => k_is); (case xx1 => kernel_rfl); (case tt1 => k_is); (case kk2 => k_is); (case xx2 => kernel_rfl); (case tt2 => k_is); (case kk3 => k_is); (case xx3 => kernel_rfl); (case tt3 => k_is); (case kk4 => k_is); (case xx4 => kernel_rfl); (case tt4 => k_is); (case kk5 => k_is); (case xx5 => kernel_rfl); (case tt5 => k_is); (case kk6 => k_is); (case xx6 => kernel_rfl); (case tt6 => k_is); (case la3 => k_is); (case sa3 => k_is); (case ee3 => k_is); (case ke3 => k_is); (case ai3 => k_is); (case ti3 => k_is); (case li3 => k_is); (case ci3 => k_is); (case ki3 => k_is); (case nf3 => k_is); (case la5 => k_is); (case sa5 => k_is); (case ee5 => k_is); (case ke5 => k_is); (case ai5 => k_is); (case ti5 => k_is); (case li5 => k_is); (case ci5 => k_is); (case ki5 => k_is); (case nf5 => k_is); (case rr0 => k_is); (case rr1 => k_is); (case rr2 => k_is); (case uu3 => k_is); (case qq3_0 => kernel_rfl); (case qq3_1 => kernel_rfl); (case qq3_2 => kernel_rfl); (case qq3_3 => kernel_rfl); (case qq3_4 => kernel_rfl); (case qq3_5 => kernel_rfl); (case qq3_6 => kernel_rfl); (case ex2 => k_exc); (case pp2 => k_is); (case uu2 => k_is); (case qq2_0 => kernel_rfl); (case qq2_1 => kernel_rfl); (case qq2_2 => kernel_rfl); (case qq2_3 => kernel_rfl); (case qq2_4 => kernel_rfl); (case qq2_5 => kernel_rfl); (case qq2_6 => kernel_rfl)
