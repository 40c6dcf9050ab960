import PyProof.Rows.All
import Wide.All
import OpenK.AllK
import Wide.FinOn
import HandS.ForMost
import HandS.NoneIn
import HandS.Conv
import HandS.IsInst
import HandS.Wide
import HandS.SortInts
import HandS.Walk
import KE.DataMinMax
import HandS.ForExc
import HandS.ExcInit
import KE.KExcIs
import HandS.ExcField
import HandS.ExcIs
import HandS.Text
import HandS.Zip
import HandS.Exc
import PySem.Challenge.RW_tiehues_k20_whole_four_hues_forced
set_option Elab.async false
set_option linter.all false
set_option maxRecDepth 100000
set_option maxHeartbeats 4000000
set_option synthInstance.maxHeartbeats 0
set_option synthInstance.maxSize 1000000
namespace Cm
open PySem PySem.Spec PyProof.Rows L2

/-! ### named readings -/
def rLen (K : PySem.W.Frag) : List V → Hp → VK → Prop := fun xs H Q => ∃ p ys, xs = [.ref p] ∧ (SqL K H p ys ∨ SqT K H p ys) ∧ Q (.int ys.length) H
theorem q_len {X : Cx} : CallR X (.builtin "len") (rLen X.K) := call_len_seq
def rListOf (K : PySem.W.Frag) : List V → Hp → VK → Prop := fun xs H Q => ∃ p ys, xs = [.ref p] ∧ (SqL K H p ys ∨ SqT K H p ys) ∧ ∀ l, H l = none → Q (.ref l) (upd H l (.lst ys))
theorem q_listOf {X : Cx} : CallR X (.type "list") (rListOf X.K) := call_list_of
def rMax2 : List V → Hp → VK → Prop := fun xs H Q => ∃ i j, xs = [.int i, .int j] ∧ Q (.int (if j > i then j else i)) H
theorem q_max2 {X : Cx} (hc : X.calm = true) : CallR X (.builtin "max") rMax2 := call_max2 hc
def rMin2 : List V → Hp → VK → Prop := fun xs H Q => ∃ i j, xs = [.int i, .int j] ∧ Q (.int (if j < i then j else i)) H
theorem q_min2 {X : Cx} (hc : X.calm = true) : CallR X (.builtin "min") rMin2 := call_min2 hc
theorem q_isi {X : Cx} : CallR X (.builtin "isinstance") (rIsi X.K) := call_isi
def rIntOf : List V → Hp → VK → Prop := fun xs H Q => (∃ i, xs = [.int i] ∧ Q (.int i) H) ∨ ∃ k, xs = [.bl k] ∧ Q (.int (if k then 1 else 0)) H
theorem q_intB {X : Cx} : CallR X (.type "int") rIntOf := call_int1
theorem q_intI {X : Cx} : CallR X (.type "int") rIntOf := call_int1

/-! ### operators by names -/
def xAdd : R2 := rI0 fun i j => .int (i + j)
def xSub : R2 := rI0 fun i j => .int (i - j)
def xMul : R2 := rI CMul fun i j => .int (i * j)
def xMulW : R2 := rI CMulW fun i j => .int (i * j)
def xDiv : R2 := rI CDiv fun i j => .int (i / j)
def xDivW : R2 := rI CDivW fun i j => .int (i / j)
def xMod : R2 := rI (fun _ j => 0 < j) fun i j => .int (i % j)
def xPow : R2 := rI CPow fun i j => .int (i ^ j.toNat)
def xLt : R2 := rI0 fun i j => .bl (decide (i < j))
def xLe : R2 := rI0 fun i j => .bl (decide (i ≤ j))
def xGt : R2 := rI0 fun i j => .bl (decide (j < i))
def xGe : R2 := rI0 fun i j => .bl (decide (j ≤ i))
def xNeg : V → Hp → VK → Prop := rU fun i => .int (-i)
def xIsN : R2 := fun x y H Q => y = .non ∧ Q (.bl (decide (x = .non))) H
def xNotN : R2 := fun x y H Q => y = .non ∧ Q (.bl (!decide (x = .non))) H
def xTru (K : PySem.W.Frag) (ta : TE) : TT := fun σ H Q => ta σ H fun x H' => ∃ k, TruV K x H' k ∧ Q k H'

/-! ### xs[i] += e -/
def rGetL (K : PySem.W.Frag) : V → V → Hp → VK → Prop := fun x y H Q => ∃ p xs i v, x = .ref p ∧ y = .int i ∧ SqL K H p xs ∧ 0 ≤ i ∧ atI xs i = some v ∧ Q v H
theorem get_list {X : Cx} : PGet X (rGetL X.K) := by
  intro pins s σ H x y v u Q I rx ry h
  obtain ⟨p, xs, i, z, rfl, rfl, hq, h0, he, q⟩ := h
  cases rx
  obtain ⟨t, rfl⟩ := ry
  obtain ⟨its, r, pl, hz⟩ := I.list hq
  obtain ⟨j, h1, h2, h3, h4, h5⟩ := atI_get he
  obtain ⟨w, ew, rw'⟩ := r.get h2
  have hl := r.length
  have hn := line63
  have fin : EP X pins σ Q w s := ⟨z, H, I, rw', q⟩
  have hj : i.toNat = j := by
    rw [seqIndex_of h0 h5] at h1
    exact Option.some.inj h1
  exact wpAny_getItem_list pl.isList h0 (by omega) (by rw [hj]; simpa using ew) fin
def xAugL (K : PySem.W.Frag) (to ti te : TE) : TS := tAugS to ti te (rGetL K) (ipI fun i j => i + j) rSetL
theorem q_augL {X : Cx} {o i e : Expr} {to ti te : TE} {tpos pos : Pos} (ho : PE X o to) (hi : PE X i ti) (he : PE X e te)
    (ha : ∀ ov iv new, augStore i ov iv new = (do holding [new, ov, iv] (setItem ov iv new); release [new, ov, iv] []; pure .next) := by intros; rfl) : PS X (.AugAssign (.Subscript o i tpos) .Add e pos) (xAugL X.K to ti te) :=
  ps_augS ho hi get_list he ip_add set_list ha

/-! ### constants of the module -/
def g_tok (mg : Str → Option Value) (x : Str) : Tok := match mg x with
  | some (.int _ t) => t
  | _ => default
theorem tok_mk {mg : Str → Option Value} {x : Str} {n : Int} {t : Tok} (h : mg x = some (.int n t)) : mg x = some (.int n (g_tok mg x)) := by
  unfold g_tok
  rw [h]

/-! ### heaps -/
theorem same_new {H : Hp} {p : Addr} {o : HO} (h : H p = none) : Same H (upd H p o) := fun b x e => by
  rw [upd_ne (ne_of_none e h)]
  exact e
theorem same_mut {H H' : Hp} {p : Addr} {o : HO} (e : Same H H') (h : H p = none) : Same H (upd H' p o) := fun a u ha => by
  rw [upd_ne (ne_of_none ha h)]
  exact e a u ha
theorem same_seqT {K : PySem.W.Frag} {H H' : Hp} {a : Addr} {xs : List V} (e : Same H H') (h : SqT K H a xs) : SqT K H' a xs := by
  rcases h with (h | ⟨o, h⟩) | h
  · exact .inl (.inl (e _ _ h))
  · exact .inl (.inr ⟨o, e _ _ h⟩)
  · exact .inr h
theorem sl {K : PySem.W.Frag} {H : Hp} {a : Addr} {xs : List V} (h : H a = some (.lst xs)) : SqL K H a xs := .inl (.inl h)
theorem stp {K : PySem.W.Frag} {H : Hp} {a : Addr} {xs : List V} (h : H a = some (.tup xs)) : SqT K H a xs := .inl (.inl h)
theorem sz {n : Nat} (h : n ≤ 100000) : n ≤ sizeLine := Nat.le_trans h (by decide)
theorem szl {n : Nat} (h : n < 100000) : n < sizeLine := Nat.lt_of_lt_of_le h (by decide)

/-! ### data -/
mutual
theorem dp_same {K : PySem.W.Frag} {H H' : Hp} (e : Same H H') : ∀ {v : V} {d : PyData}, Dp K H v d → Dp K H' v d
  | _, _, .non => .non
  | _, _, .bl b => .bl b
  | _, _, .int i => .int i
  | _, _, .str x => .str x
  | _, _, .lst s r => .lst (e.seq s) (dpa_same e r)
  | _, _, .tup s r => .tup (same_seqT e s) (dpa_same e r)
theorem dpa_same {K : PySem.W.Frag} {H H' : Hp} (e : Same H H') : ∀ {vs : List V} {ds : List PyData}, DpAll K H vs ds → DpAll K H' vs ds
  | _, _, .nil => .nil
  | _, _, .cons h r => .cons (dp_same e h) (dpa_same e r)
end
section
variable {K : PySem.W.Frag} {H : Hp}
theorem dp_int {v : V} {i : Int} (h : Dp K H v (.int i)) : v = .int i := by cases h; rfl
theorem dp_bool {v : V} {b : Bool} (h : Dp K H v (.bool b)) : v = .bl b := by cases h; rfl
theorem dp_str {v : V} {s : Str} (h : Dp K H v (.str s)) : v = .str s := by cases h; rfl
theorem dp_list {v : V} {ds : List PyData} (h : Dp K H v (.list ds)) : ∃ a xs, v = .ref a ∧ SqL K H a xs ∧ DpAll K H xs ds := by
  cases h with | lst s r => exact ⟨_, _, rfl, s, r⟩
theorem dp_tup {v : V} {ds : List PyData} (h : Dp K H v (.tuple ds)) : ∃ a xs, v = .ref a ∧ SqT K H a xs ∧ DpAll K H xs ds := by
  cases h with | tup s r => exact ⟨_, _, rfl, s, r⟩
theorem dp_tup2 {v : V} {c d : PyData} (h : Dp K H v (.tuple [c, d])) : ∃ a x y, v = .ref a ∧ SqT K H a [x, y] ∧ Dp K H x c ∧ Dp K H y d := by
  cases h with | tup s r =>
    cases r with | cons h1 r =>
      cases r with | cons h2 r =>
        cases r
        exact ⟨_, _, _, rfl, s, h1, h2⟩
theorem dp_pair {v : V} {a b : Int} (h : Dp K H v (.tuple [.int a, .int b])) : ∃ p, v = .ref p ∧ SqT K H p [.int a, .int b] := by
  obtain ⟨p, x, y, rfl, s, h1, h2⟩ := dp_tup2 h
  rw [dp_int h1, dp_int h2] at s
  exact ⟨p, rfl, s⟩
theorem dpa_ints : ∀ {ns : List Int} {vs : List V}, DpAll K H vs (ns.map PyData.int) → vs = ns.map V.int
  | [], _, h => by cases h; rfl
  | n :: r, _, h => by
    cases h with | cons h1 h2 => rw [dp_int h1, dpa_ints h2]; rfl
theorem dpa_of_ints : ∀ ns : List Int, DpAll K H (ns.map V.int) (ns.map PyData.int)
  | [] => .nil
  | n :: r => .cons (.int n) (dpa_of_ints r)
theorem dpa_len : ∀ {vs : List V} {ds : List PyData}, DpAll K H vs ds → vs.length = ds.length
  | _, _, .nil => rfl
  | _, _, .cons _ r => by simp [dpa_len r]
theorem dpa_get : ∀ {vs : List V} {ds : List PyData} {i : Nat} {v : V}, DpAll K H vs ds → vs[i]? = some v → ∃ d, ds[i]? = some d ∧ Dp K H v d
  | _, _, _, _, .nil, e => by simp at e
  | _, _, 0, _, .cons h _, e => by simp at e; subst e; exact ⟨_, rfl, h⟩
  | _, _, i + 1, _, .cons _ r, e => by
    obtain ⟨d, h1, h2⟩ := dpa_get (i := i) r (by simpa using e)
    exact ⟨d, by simpa using h1, h2⟩
theorem dpa_get2 : ∀ {vs : List V} {ds : List PyData} {i : Nat} {d : PyData}, DpAll K H vs ds → ds[i]? = some d → ∃ v, vs[i]? = some v ∧ Dp K H v d
  | _, _, _, _, .nil, e => by simp at e
  | _, _, 0, _, .cons h _, e => by simp at e; subst e; exact ⟨_, rfl, h⟩
  | _, _, i + 1, _, .cons _ r, e => by
    obtain ⟨d, h1, h2⟩ := dpa_get2 (i := i) r (by simpa using e)
    exact ⟨d, by simpa using h1, h2⟩
theorem dpa_app {vs ws : List V} {ds es : List PyData} : DpAll K H vs ds → DpAll K H ws es → DpAll K H (vs ++ ws) (ds ++ es)
  | .nil, r => r
  | .cons h t, r => .cons h (dpa_app t r)
/-- a list of ints -/
abbrev dInts (ns : List Int) : PyData := .list (ns.map PyData.int)
theorem dp_ints {v : V} {ns : List Int} (h : Dp K H v (dInts ns)) : ∃ a, v = .ref a ∧ SqL K H a (ns.map V.int) := by
  obtain ⟨a, xs, rfl, s, r⟩ := dp_list h
  rw [dpa_ints r] at s
  exact ⟨a, rfl, s⟩
theorem dp_of_ints {a : Addr} {ns : List Int} (h : SqL K H a (ns.map V.int)) : Dp K H (.ref a) (dInts ns) := .lst h (dpa_of_ints ns)
/-- a pair of ints -/
abbrev dPair (p : Int × Int) : PyData := .tuple [.int p.1, .int p.2]
theorem dp_of_pair {a : Addr} {x y : Int} (h : SqT K H a [.int x, .int y]) : Dp K H (.ref a) (dPair (x, y)) := .tup h (.cons (.int x) (.cons (.int y) .nil))
abbrev dPairs (ps : List (Int × Int)) : PyData := .list (ps.map dPair)
end

theorem dpairs_get {K : PySem.W.Frag} {H : Hp} {xs : List V} {ps : List (Int × Int)} {i : Nat} {x : V} (hxs : DpAll K H xs (ps.map dPair)) (hx : xs[i]? = some x) : ∃ p c, ps[i]? = some p ∧ x = .ref c ∧ SqT K H c [.int p.1, .int p.2] := by
  obtain ⟨d, hd, hdx⟩ := dpa_get hxs hx
  rw [List.getElem?_map] at hd
  obtain ⟨p, hp, rfl⟩ := Option.map_eq_some_iff.mp hd
  obtain ⟨c, rfl, hcs⟩ := dp_pair hdx
  exact ⟨p, c, hp, rfl, hcs⟩
/-- data that may be compared: no dicts, at most n deep -/
def Sh (n : Nat) (d : PyData) : Prop := d.canLay0 = true ∧ d.depth ≤ n
theorem Sh.shaped {n : Nat} {d : PyData} (h : Sh n d) (hn : n ≤ 64) : SeqAt.shaped d = true := by
  unfold SeqAt.shaped
  rw [h.1, decide_eq_true (Nat.le_trans h.2 hn)]; rfl
theorem Sh.mono {n m : Nat} {d : PyData} (h : Sh n d) (hn : n ≤ m) : Sh m d := ⟨h.1, Nat.le_trans h.2 hn⟩
theorem sh_int {n : Nat} {i : Int} : Sh n (.int i) := ⟨rfl, Nat.zero_le _⟩
theorem sh_bool {n : Nat} {b : Bool} : Sh n (.bool b) := ⟨rfl, Nat.zero_le _⟩
theorem sh_none {n : Nat} : Sh n .none := ⟨rfl, Nat.zero_le _⟩
theorem sh_all {n : Nat} : ∀ {ds : List PyData}, (∀ d ∈ ds, Sh n d) → PyData.canLayAll0 ds = true ∧ PyData.depthAll ds ≤ n
  | [], _ => ⟨rfl, Nat.zero_le _⟩
  | d :: r, h => by
    obtain ⟨h1, h2⟩ := sh_all (ds := r) fun x hx => h x (List.mem_cons_of_mem _ hx)
    obtain ⟨h3, h4⟩ := h d List.mem_cons_self
    refine ⟨?_, ?_⟩
    · show (PyData.canLay0 d && PyData.canLayAll0 r) = true
      rw [h3, h1]; rfl
    · show max d.depth (PyData.depthAll r) ≤ n
      omega
theorem sh_list {n : Nat} {ds : List PyData} (h : ∀ d ∈ ds, Sh n d) : Sh (n + 1) (.list ds) := by
  obtain ⟨h1, h2⟩ := sh_all h
  exact ⟨h1, by show PyData.depthAll ds + 1 ≤ n + 1; omega⟩
theorem sh_tup {n : Nat} {ds : List PyData} (h : ∀ d ∈ ds, Sh n d) : Sh (n + 1) (.tuple ds) := by
  obtain ⟨h1, h2⟩ := sh_all h
  exact ⟨h1, by show PyData.depthAll ds + 1 ≤ n + 1; omega⟩
theorem sh_ints {n : Nat} (ns : List Int) : Sh (n + 1) (dInts ns) := sh_list fun d hd => by
  obtain ⟨i, _, rfl⟩ := List.mem_map.mp hd
  exact sh_int
theorem sh_pair {n : Nat} (p : Int × Int) : Sh (n + 1) (dPair p) := sh_tup fun d hd => by
  rcases List.mem_cons.mp hd with rfl | hd
  · exact sh_int
  · rcases List.mem_cons.mp hd with rfl | hd
    · exact sh_int
    · cases hd
theorem sh_pairs {n : Nat} (ps : List (Int × Int)) : Sh (n + 2) (dPairs ps) := sh_list fun d hd => by
  obtain ⟨p, _, rfl⟩ := List.mem_map.mp hd
  exact sh_pair p
theorem sh_two {n : Nat} {c d : PyData} (h1 : Sh n c) (h2 : Sh n d) : Sh (n + 1) (.tuple [c, d]) := sh_tup fun x hx => by
  rcases List.mem_cons.mp hx with rfl | hx
  · exact h1
  · rcases List.mem_cons.mp hx with rfl | hx
    · exact h2
    · cases hx
theorem Sh.refl {n : Nat} {d : PyData} (h : Sh n d) : PyData.eqv d d = true := SeqAt.eqv_refl d h.1
theorem ff_iff {P : Prop} (h : ¬ P) : false = true ↔ P := ⟨fun z => (nomatch z), fun z => (h z).elim⟩
theorem tt_iff {P : Prop} (h : P) : true = true ↔ P := ⟨fun _ => h, fun _ => rfl⟩

theorem ixN_of {n : Nat} {i : Int} (h0 : 0 ≤ i) (h1 : i < n) : ixN n i = some i.toNat := by unfold ixN; rw [if_pos h0, if_pos h1]
theorem map_erase (ns : List Int) (i : Nat) : (ns.map V.int).eraseIdx i = (ns.eraseIdx i).map V.int := by
  induction ns generalizing i with
  | nil => rfl
  | cons x r ih => cases i with
    | zero => rfl
    | succ i => show V.int x :: (r.map V.int).eraseIdx i = _; rw [ih]; rfl
theorem erase_perm {α : Type} (l : List α) (i : Nat) (h : i < l.length) : (l[i] :: l.eraseIdx i).Perm l := by
  induction l generalizing i with
  | nil => exact absurd h (by simp)
  | cons x r ih => cases i with
    | zero => exact List.Perm.refl _
    | succ i =>
      have h' : i < r.length := by simpa using h
      show (r[i] :: x :: r.eraseIdx i).Perm (x :: r)
      exact (List.Perm.swap _ _ _).trans ((ih i h').cons x)
theorem getD_memI {ns : List Int} {i : Int} (h0 : 0 ≤ i) (h1 : i < ns.length) : ns.getD i.toNat 0 ∈ ns := by
  have h : i.toNat < ns.length := by omega
  rw [List.getD_eq_getElem?_getD, List.getElem?_eq_getElem h]
  exact List.getElem_mem h
theorem not_in2 {p a b : Addr} (h1 : p ≠ a) (h2 : p ≠ b) : p ∉ [a, b] := by
  intro z
  rcases List.mem_cons.mp z with z | z
  · exact h1 z
  · rcases List.mem_cons.mp z with z | z
    · exact h2 z
    · cases z

/-! ### readings, step by step -/
section
variable {K : PySem.W.Frag} {σ : L2.St} {H : Hp} {D : Ends} {Q : VK} {ta tb te : TE} {t u : TT} {s1 s2 : TS} {QT : Bool → Hp → Prop} {QA : List V → Hp → Prop} {tr : TA} {QS : L2.St → Hp → Prop}
theorem k_seq {nx : L2.St → Hp → Prop} {rt : VK} {bk ct : L2.St → Hp → Prop} (h : s1 ⟨s2 ⟨nx, rt, bk, ct⟩, rt, bk, ct⟩ σ H) : tSeq s1 s2 ⟨nx, rt, bk, ct⟩ σ H := h
theorem k_nx {nx : L2.St → Hp → Prop} {rt : VK} {bk ct : L2.St → Hp → Prop} (h : nx σ H) : Ends.nx ⟨nx, rt, bk, ct⟩ σ H := h
theorem k_next {nx : L2.St → Hp → Prop} {rt : VK} {bk ct : L2.St → Hp → Prop} (h : nx σ H) : tNext ⟨nx, rt, bk, ct⟩ σ H := h
theorem k_cont {nx : L2.St → Hp → Prop} {rt : VK} {bk ct : L2.St → Hp → Prop} (h : ct σ H) : tCont ⟨nx, rt, bk, ct⟩ σ H := h
theorem k_brk {nx : L2.St → Hp → Prop} {rt : VK} {bk ct : L2.St → Hp → Prop} (h : bk σ H) : tBreak ⟨nx, rt, bk, ct⟩ σ H := h
theorem k_set {nx : L2.St → Hp → Prop} {rt : VK} {bk ct : L2.St → Hp → Prop} {i : Nat} (h : te σ H fun x H1 => nx (σ.set i (some x)) H1) : tAsg te (gName i) ⟨nx, rt, bk, ct⟩ σ H := h
theorem k_asg {nx : L2.St → Hp → Prop} {rt : VK} {bk ct : L2.St → Hp → Prop} {g : TG} (h : te σ H fun x H1 => g x σ H1 nx) : tAsg te g ⟨nx, rt, bk, ct⟩ σ H := h
theorem k_drop {nx : L2.St → Hp → Prop} {rt : VK} {bk ct : L2.St → Hp → Prop} (h : te σ H fun _ H1 => nx σ H1) : tDrop te ⟨nx, rt, bk, ct⟩ σ H := h
theorem k_ret {nx : L2.St → Hp → Prop} {rt : VK} {bk ct : L2.St → Hp → Prop} (h : te σ H rt) : tRet te ⟨nx, rt, bk, ct⟩ σ H := h
theorem k_retN {nx : L2.St → Hp → Prop} {rt : VK} {bk ct : L2.St → Hp → Prop} (h : rt .non H) : tRetN ⟨nx, rt, bk, ct⟩ σ H := h
theorem k_aug {nx : L2.St → Hp → Prop} {rt : VK} {bk ct : L2.St → Hp → Prop} {i : Nat} {f : Int → Int → Int} {a : Int} (e : σ[i]? = some (some (.int a))) (h : te σ H fun y H1 => ipI f (.int a) y H1 fun z H2 => nx (σ.set i (some z)) H2) : tAug i te (ipI f) ⟨nx, rt, bk, ct⟩ σ H := ⟨_, e, h⟩
theorem k_augL {nx : L2.St → Hp → Prop} {rt : VK} {bk ct : L2.St → Hp → Prop} {to ti : TE} (h : to σ H fun o H1 => ti σ H1 fun i H2 => rGetL K o i H2 fun x H3 => te σ H3 fun y H4 => ipI (fun i j => i + j) x y H4 fun z H5 => rSetL o i z H5 fun H6 => nx σ H6) : xAugL K to ti te ⟨nx, rt, bk, ct⟩ σ H := h
theorem k_ipI {f : Int → Int → Int} {a b : Int} (h : Q (.int (f a b)) H) : ipI f (.int a) (.int b) H Q := ⟨a, b, rfl, rfl, h⟩
theorem k_if (h : t σ H fun b H1 => if b = true then s1 D σ H1 else s2 D σ H1) : tIfS t s1 s2 D σ H := h
theorem k_var {i : Nat} {v : V} (e : σ[i]? = some (some v)) (h : Q v H) : tVar i σ H Q := ⟨v, e, h⟩
theorem k_c {v : V} (h : Q v H) : tC v σ H Q := h
theorem k_op {r : R2} (h : ta σ H fun x H1 => tb σ H1 fun y H2 => r x y H2 Q) : tOp r ta tb σ H Q := h
theorem k_un {r : V → Hp → VK → Prop} (h : ta σ H fun x H1 => r x H1 Q) : tUn r ta σ H Q := h
theorem k_I0 {g : Int → Int → V} {i j : Int} (h : Q (g i j) H) : rI0 g (.int i) (.int j) H Q := ⟨i, j, rfl, rfl, h⟩
theorem k_I {C : Int → Int → Prop} {g : Int → Int → V} {i j : Int} (hc : C i j) (h : Q (g i j) H) : rI C g (.int i) (.int j) H Q := ⟨i, j, rfl, rfl, hc, h⟩
theorem k_add {i j : Int} (h : Q (.int (i + j)) H) : xAdd (.int i) (.int j) H Q := ⟨i, j, rfl, rfl, h⟩
theorem k_sub {i j : Int} (h : Q (.int (i - j)) H) : xSub (.int i) (.int j) H Q := ⟨i, j, rfl, rfl, h⟩
theorem k_mul {i j : Int} (hc : CMul i j) (h : Q (.int (i * j)) H) : xMul (.int i) (.int j) H Q := ⟨i, j, rfl, rfl, hc, h⟩
theorem k_mulW {i j : Int} (hc : CMulW i j) (h : Q (.int (i * j)) H) : xMulW (.int i) (.int j) H Q := ⟨i, j, rfl, rfl, hc, h⟩
theorem k_div {i j : Int} (hc : CDiv i j) (h : Q (.int (i / j)) H) : xDiv (.int i) (.int j) H Q := ⟨i, j, rfl, rfl, hc, h⟩
theorem k_divW {i j : Int} (hc : CDivW i j) (h : Q (.int (i / j)) H) : xDivW (.int i) (.int j) H Q := ⟨i, j, rfl, rfl, hc, h⟩
theorem k_mod {i j : Int} (hc : 0 < j) (h : Q (.int (i % j)) H) : xMod (.int i) (.int j) H Q := ⟨i, j, rfl, rfl, hc, h⟩
theorem k_pow {i j : Int} (hc : CPow i j) (h : Q (.int (i ^ j.toNat)) H) : xPow (.int i) (.int j) H Q := ⟨i, j, rfl, rfl, hc, h⟩
theorem k_lt {i j : Int} (h : Q (.bl (decide (i < j))) H) : xLt (.int i) (.int j) H Q := ⟨i, j, rfl, rfl, h⟩
theorem k_le {i j : Int} (h : Q (.bl (decide (i ≤ j))) H) : xLe (.int i) (.int j) H Q := ⟨i, j, rfl, rfl, h⟩
theorem k_gt {i j : Int} (h : Q (.bl (decide (j < i))) H) : xGt (.int i) (.int j) H Q := ⟨i, j, rfl, rfl, h⟩
theorem k_ge {i j : Int} (h : Q (.bl (decide (j ≤ i))) H) : xGe (.int i) (.int j) H Q := ⟨i, j, rfl, rfl, h⟩
theorem k_neg {i : Int} (h : Q (.int (-i)) H) : xNeg (.int i) H Q := ⟨i, rfl, h⟩
theorem k_U {g : Int → V} {i : Int} (h : Q (g i) H) : rU g (.int i) H Q := ⟨i, rfl, h⟩
theorem k_eqI {i j : Int} (h : Q (.bl (decide (i = j))) H) : rEq (.int i) (.int j) H Q := ⟨rfl, by
  have e : decide (V.int i = V.int j) = decide (i = j) := by
    by_cases c : i = j
    · rw [decide_eq_true c, decide_eq_true (by rw [c])]
    · rw [decide_eq_false c, decide_eq_false (fun z => c (V.int.inj z))]
  rw [e]; exact h⟩
theorem k_neI {i j : Int} (h : Q (.bl (!decide (i = j))) H) : rNe (.int i) (.int j) H Q := ⟨rfl, by
  have e : decide (V.int i = V.int j) = decide (i = j) := by
    by_cases c : i = j
    · rw [decide_eq_true c, decide_eq_true (by rw [c])]
    · rw [decide_eq_false c, decide_eq_false (fun z => c (V.int.inj z))]
  rw [e]; exact h⟩
theorem k_test (h : te σ H fun x H1 => ∃ k, x = .bl k ∧ QT k H1) : tTest te σ H QT := h
theorem k_B (h : te σ H fun x H1 => ∃ k, x = .bl k ∧ QT k H1) : tB te σ H QT := h
theorem k_bl {b : Bool} {R : Bool → Prop} (h : R b) : ∃ k, V.bl b = .bl k ∧ R k := ⟨b, rfl, h⟩
theorem k_and (h : t σ H fun c H1 => if c = true then u σ H1 QT else QT false H1) : tAnd t u σ H QT := h
theorem k_or (h : t σ H fun c H1 => if c = true then QT true H1 else u σ H1 QT) : tOr t u σ H QT := h
theorem k_not (h : t σ H fun c H1 => QT (!c) H1) : tNot t σ H QT := h
theorem k_notV (h : ta σ H fun x H1 => ∃ c, x = .bl c ∧ Q (.bl (!c)) H1) : tNotV ta σ H Q := h
theorem k_andV (h : ta σ H fun x H1 => ∃ c, x = .bl c ∧ if c = true then tb σ H1 Q else Q (.bl false) H1) : tAndV ta tb σ H Q := h
theorem k_orV (h : ta σ H fun x H1 => ∃ c, x = .bl c ∧ if c = true then Q (.bl true) H1 else tb σ H1 Q) : tOrV ta tb σ H Q := h
theorem k_cb {r : List V → Hp → VK → Prop} (h : tr σ H fun vs H1 => r vs H1 Q) : tCB r tr σ H Q := h
theorem k_nil (h : QA [] H) : tNil σ H QA := h
theorem k_cons (h : ta σ H fun x H1 => tr σ H1 fun xs H2 => QA (x :: xs) H2) : tCons ta tr σ H QA := h
theorem k_call {sp : Sp} {dvs : List V} {E : XK} (h : tr σ H fun vs H1 => sp (vs ++ dvs) H1 Q E) : tCall sp dvs E tr σ H Q := h
theorem k_len {p : Addr} {ys : List V} (hs : SqL K H p ys) (h : Q (.int ys.length) H) : rLen K [.ref p] H Q := ⟨p, ys, rfl, .inl hs, h⟩
theorem k_len0 {p : Addr} (hs : H p = some (.lst [])) (h : Q (.int 0) H) : rLen K [.ref p] H Q := ⟨p, [], rfl, .inl (sl hs), h⟩
theorem k_lenT {p : Addr} {ys : List V} (hs : SqT K H p ys) (h : Q (.int ys.length) H) : rLen K [.ref p] H Q := ⟨p, ys, rfl, .inr hs, h⟩
theorem k_lenI {p : Addr} {ns : List Int} (hs : SqL K H p (ns.map V.int)) (h : Q (.int ns.length) H) : rLen K [.ref p] H Q := ⟨p, _, rfl, .inl hs, by rw [List.length_map]; exact h⟩
theorem k_list {p : Addr} {ys : List V} (hs : SqL K H p ys) (h : ∀ l, H l = none → Q (.ref l) (upd H l (.lst ys))) : rListOf K [.ref p] H Q := ⟨p, ys, rfl, .inl hs, h⟩
theorem k_lst (h : tr σ H fun xs H1 => xs.length ≤ sizeLine ∧ ∀ p, H1 p = none → Q (.ref p) (upd H1 p (.lst xs))) : tLst tr σ H Q := h
theorem k_tup (h : tr σ H fun xs H1 => xs.length ≤ sizeLine ∧ ∀ p, H1 p = none → Q (.ref p) (upd H1 p (.tup xs))) : tTup tr σ H Q := h
theorem k_new {xs : List V} {R : Addr → Prop} (hn : xs.length ≤ 100000) (h : ∀ p, H p = none → R p) : xs.length ≤ sizeLine ∧ ∀ p, H p = none → R p := ⟨sz hn, h⟩
theorem k_gtup {n : Nat} {g : TGs} {a : Addr} {xs : List V} (hs : SqT K H a xs) (hn : xs.length = n) (h : g xs σ H QS) : gTup K n g (.ref a) σ H QS := ⟨a, xs, rfl, hs, hn, h⟩
theorem k_gunl {n : Nat} {g : TGs} {a : Addr} {xs : List V} (hs : SqL K H a xs) (hn : xs.length = n) (h : g xs σ H QS) : gUnl K n g (.ref a) σ H QS := ⟨a, xs, rfl, hs, hn, h⟩
theorem k_gcons {g : TG} {gs : TGs} {v : V} {r : List V} (h : g v σ H fun σ' H' => gs r σ' H' QS) : gCons g gs (v :: r) σ H QS := ⟨v, r, rfl, h⟩
theorem k_gnil (h : QS σ H) : gNil [] σ H QS := ⟨rfl, h⟩
theorem k_gname {i : Nat} {v : V} (h : QS (σ.set i (some v)) H) : gName i v σ H QS := h
theorem k_gsub {to ti : TE} {ts : TSet} {v : V} (h : to σ H fun o H1 => ti σ H1 fun i H2 => ts o i v H2 fun H3 => QS σ H3) : gSub to ti ts v σ H QS := h
theorem k_setL {p : Addr} {xs : List V} {k : Int} {j : Nat} {v : V} {QH : Hp → Prop} (hp : H p = some (.lst xs)) (hj : ixN xs.length k = some j) (h : QH (upd H p (.lst (xs.set j v)))) : rSetL (.ref p) (.int k) v H QH := ⟨p, xs, k, j, rfl, rfl, hp, hj, h⟩
theorem k_ixL {p : Addr} {xs : List V} {i : Int} {v : V} (hs : SqL K H p xs) (ha : atI xs i = some v) (h : Q v H) : rIxL K (.ref p) (.int i) H Q := ⟨p, xs, i, v, rfl, rfl, hs, ha, h⟩
theorem k_ixT {p : Addr} {xs : List V} {i : Int} {v : V} (hs : SqT K H p xs) (ha : atI xs i = some v) (h : Q v H) : rIxT K (.ref p) (.int i) H Q := ⟨p, xs, i, v, rfl, rfl, hs, ha, h⟩
theorem k_min {p : Addr} {ns : List Int} (hs : SqL K H p (ns.map V.int)) (h0 : 0 < ns.length) (h : ∀ m, m ∈ ns → (∀ y, y ∈ ns → m ≤ y) → Q (.int m) H) : rMin K [.ref p] H Q := ⟨p, ns, rfl, hs, h0, h⟩
theorem k_max {p : Addr} {ns : List Int} (hs : SqL K H p (ns.map V.int)) (h0 : 0 < ns.length) (h : ∀ m, m ∈ ns → (∀ y, y ∈ ns → y ≤ m) → Q (.int m) H) : rMax K [.ref p] H Q := ⟨p, ns, rfl, hs, h0, h⟩
theorem k_popI {p : Addr} {ns : List Int} {i : Int} (hp : H p = some (.lst (ns.map V.int))) (h0 : 0 ≤ i) (h1 : i < ns.length) (h2 : i < 1000000) (h : Q (.int (ns.getD i.toNat 0)) (upd H p (.lst ((ns.eraseIdx i.toNat).map V.int)))) : rPopAt (.ref p) [.int i] H Q := by
  refine ⟨p, _, i, i.toNat, .int (ns.getD i.toNat 0), rfl, rfl, hp, by omega, by omega, ?_, ?_, ?_⟩
  · exact (ixN_seq (ixN_of h0 (by rw [List.length_map]; exact h1))).1
  · have hh : i.toNat < ns.length := by omega
    rw [List.getElem?_map, List.getElem?_eq_getElem hh]
    simp [List.getD_eq_getElem?_getD, List.getElem?_eq_getElem hh]
  · have e : (ns.map V.int).eraseIdx i.toNat = (ns.eraseIdx i.toNat).map V.int := map_erase ns _
    rw [e]; exact h
theorem k_sortedI {a : Addr} {ns : List Int} (hs : SqL K H a (ns.map V.int)) (h : ∀ (ns' : List Int) (p : Addr), ns'.Perm ns → ns'.Pairwise (· ≤ ·) → H p = none → Q (.ref p) (upd H p (.lst (ns'.map V.int)))) : rSortedI K [.ref a] H Q := ⟨a, ns, rfl, hs, h⟩
theorem k_max2 {i j : Int} (h : Q (.int (if j > i then j else i)) H) : rMax2 [.int i, .int j] H Q := ⟨i, j, rfl, h⟩
theorem k_min2 {i j : Int} (h : Q (.int (if j < i then j else i)) H) : rMin2 [.int i, .int j] H Q := ⟨i, j, rfl, h⟩
theorem k_bm {T : String} {r : V → List V → Hp → VK → Prop} (h : ta σ H fun x H1 => tyV K T x H1 ∧ tr σ H1 fun xs H2 => r x xs H2 Q) : tBM K T r ta tr σ H Q := h
theorem k_bm0 {T : String} {r : V → List V → Hp → VK → Prop} (h : ta σ H fun x H1 => tyV K T x H1 ∧ r x [] H1 Q) : tBM0 K T r ta σ H Q := h
theorem k_cat {p q : Addr} {xs ys : List V} (hp : H p = some (.lst xs)) (hq : H q = some (.lst ys)) (hz : xs.length + ys.length ≤ 100000) (h : ∀ l, H l = none → Q (.ref l) (upd H l (.lst (xs ++ ys)))) : rCat (.ref p) (.ref q) H Q := ⟨p, q, xs, ys, rfl, rfl, hp, hq, sz hz, h⟩
theorem k_tyL {p : Addr} {xs : List V} {R : Prop} (hp : SqL K H p xs) (h : R) : tyV K "list" (.ref p) H ∧ R := ⟨.inl ⟨rfl, _, hp⟩, h⟩
theorem k_append {p : Addr} {xs : List V} {y : V} (hp : H p = some (.lst xs)) (hn : xs.length < 100000) (h : Q .non (upd H p (.lst (xs ++ [y])))) : rAppend (.ref p) [y] H Q := ⟨p, xs, y, rfl, rfl, hp, szl hn, h⟩
theorem k_itT {b : Bool} {A B : Prop} (e : b = true) (h : A) : if b = true then A else B := by rw [if_pos e]; exact h
theorem k_itF {b : Bool} {A B : Prop} (e : b = false) (h : B) : if b = true then A else B := by rw [e]; exact h
theorem iteNT {A B : Prop} (h : B) : if (!true) = true then A else B := iteF h
theorem iteNF {A B : Prop} (h : A) : if (!false) = true then A else B := iteT h
theorem k_itDT {c A B : Prop} [Decidable c] (e : c) (h : A) : if decide c = true then A else B := by rw [if_pos (decide_eq_true e)]; exact h
theorem k_itDF {c A B : Prop} [Decidable c] (e : ¬ c) (h : B) : if decide c = true then A else B := by rw [decide_eq_false e]; exact h
theorem k_itNT {c A B : Prop} [Decidable c] (e : ¬ c) (h : A) : if (!decide c) = true then A else B := by rw [decide_eq_false e]; exact h
theorem k_itNF {c A B : Prop} [Decidable c] (e : c) (h : B) : if (!decide c) = true then A else B := by rw [decide_eq_true e]; exact h
theorem k_for {nx : L2.St → Hp → Prop} {rt : VK} {bk ct : L2.St → Hp → Prop} {wi : TI} {g : TG} {tb : TS} (h : wi σ H fun J H1 => ∃ W : Nat → Nat → L2.St → Hp → Prop, (∃ m, W 0 m σ H1) ∧ ∀ i m σ H, W i m σ H →
  (J.stop i H ∧ nx σ H) ∨ (J.go i H ∧ ∃ N : L2.St → Hp → Prop, (∀ σ' H', N σ' H' → ∃ m', m' < m ∧ W (i + 1) m' σ' H') ∧ ∀ x H', J.yld i H x H' → g x σ H' fun σ2 H2 => tb ⟨N, rt, nx, N⟩ σ2 H2)) : tFor wi g tb ⟨nx, rt, bk, ct⟩ σ H := h
theorem forL {nx : L2.St → Hp → Prop} {rt : VK} {b : Addr} {xs : List V} {g : TG} {tb : TS} (hs0 : SqL K H b xs) (Pv : Nat → L2.St → Hp → Prop) (h0 : Pv 0 σ H) (hl : ∀ i σ H, i ≤ xs.length → Pv i σ H → SqL K H b xs)
    (hs : ∀ (i : Nat) x σ H, xs[i]? = some x → Pv i σ H → g x σ H fun σ2 H2 => tb ⟨Pv (i + 1), rt, nx, Pv (i + 1)⟩ σ2 H2) (hd : ∀ σ H, Pv xs.length σ H → nx σ H) :
    ∃ a, V.ref b = .ref a ∧ (∃ xs, SqL K H a xs) ∧ ∃ W : Nat → Nat → L2.St → Hp → Prop, (∃ m, W 0 m σ H) ∧ ∀ i m σ H, W i m σ H →
      ((Itl K a).stop i H ∧ nx σ H) ∨ ((Itl K a).go i H ∧ ∃ N : L2.St → Hp → Prop, (∀ σ' H', N σ' H' → ∃ m', m' < m ∧ W (i + 1) m' σ' H') ∧ ∀ x H', (Itl K a).yld i H x H' → g x σ H' fun σ2 H2 => tb ⟨N, rt, nx, N⟩ σ2 H2) :=
  ⟨b, rfl, ⟨xs, hs0⟩, for_list (D := ⟨nx, rt, fun _ _ => False, fun _ _ => False⟩) Pv h0 hl hs hd⟩
theorem forR {nx : L2.St → Hp → Prop} {rt : VK} {lo : Int} {n : Nat} {g : TG} {tb : TS} (Pv : Nat → L2.St → Hp → Prop) (h0 : Pv 0 σ H)
    (hs : ∀ (i : Nat) σ H, i < n → Pv i σ H → g (.int (lo + i)) σ H fun σ2 H2 => tb ⟨Pv (i + 1), rt, nx, Pv (i + 1)⟩ σ2 H2) (hd : ∀ σ H, Pv n σ H → nx σ H) :
    ∃ W : Nat → Nat → L2.St → Hp → Prop, (∃ m, W 0 m σ H) ∧ ∀ i m σ H, W i m σ H →
      ((Itr lo n).stop i H ∧ nx σ H) ∨ ((Itr lo n).go i H ∧ ∃ N : L2.St → Hp → Prop, (∀ σ' H', N σ' H' → ∃ m', m' < m ∧ W (i + 1) m' σ' H') ∧ ∀ x H', (Itr lo n).yld i H x H' → g x σ H' fun σ2 H2 => tb ⟨N, rt, nx, N⟩ σ2 H2) :=
  for_range (D := ⟨nx, rt, fun _ _ => False, fun _ _ => False⟩) Pv h0 hs hd
theorem k_while {nx : L2.St → Hp → Prop} {rt : VK} {bk ct : L2.St → Hp → Prop} {c : TT} {tb : TS} (h : ∃ W : Nat → L2.St → Hp → Prop, (∃ m, W m σ H) ∧ ∀ m σ H, W m σ H →
  c σ H fun b H1 => if b = true then ∃ N : L2.St → Hp → Prop, (∀ σ' H', N σ' H' → ∃ m', m' < m ∧ W m' σ' H') ∧ tb ⟨N, rt, nx, N⟩ σ H1 else nx σ H1) : tWhile c tb ⟨nx, rt, bk, ct⟩ σ H := h
theorem whileW {nx : L2.St → Hp → Prop} {rt : VK} {bk ct : L2.St → Hp → Prop} {c : TT} {tb : TS} (W : Nat → L2.St → Hp → Prop) {m0 : Nat} (h0 : W m0 σ H)
    (hs : ∀ m σ H, W m σ H → c σ H fun b H1 => if b = true then tb ⟨fun σ' H' => ∃ m', m' < m ∧ W m' σ' H', rt, nx, fun σ' H' => ∃ m', m' < m ∧ W m' σ' H'⟩ σ H1 else nx σ H1)
    (mono : ∀ σ H (Q Q' : Bool → Hp → Prop), (∀ b H1, Q b H1 → Q' b H1) → c σ H Q → c σ H Q') : tWhile c tb ⟨nx, rt, bk, ct⟩ σ H := by
  refine ⟨W, ⟨m0, h0⟩, fun m σ H w => mono σ H _ _ (fun b H1 q => ?_) (hs m σ H w)⟩
  cases b with
  | true => exact ⟨_, fun σ' H' h => h, q⟩
  | false => exact q
theorem k_iList {R : It → Hp → Prop} (h : te σ H fun x H1 => ∃ a, x = .ref a ∧ (∃ xs, SqL K H1 a xs) ∧ R (Itl K a) H1) : iList K te σ H R := h
theorem k_iTup {R : It → Hp → Prop} (h : te σ H fun x H1 => ∃ a, x = .ref a ∧ (∃ xs, SqT K H1 a xs) ∧ R (Itt K a) H1) : iTup K te σ H R := h
theorem k_iZip {R : It → Hp → Prop} (h : tr σ H fun vs H1 => ∃ a b xs ys, vs = [.ref a, .ref b] ∧ SqL K H1 a xs ∧ SqL K H1 b ys ∧ R (Itz K a b) H1) : iZip K tr σ H R := h
theorem k_iEnum {R : It → Hp → Prop} (h : tr σ H fun vs H1 => ∃ a xs, vs = [.ref a] ∧ SqL K H1 a xs ∧ R (Ite K a) H1) : iEnum K tr σ H R := h
theorem k_iRng1 {R : It → Hp → Prop} (h : tr σ H fun vs H1 => ∃ j : Int, vs = [.int j] ∧ -(2 ^ 62) ≤ j ∧ j < 2 ^ 62 ∧ R (Itr 0 j.toNat) H1) : iRng1 tr σ H R := h
theorem k_iRng2 {R : It → Hp → Prop} (h : tr σ H fun vs H1 => ∃ i j : Int, vs = [.int i, .int j] ∧ (-(2 ^ 62) ≤ i ∧ i < 2 ^ 62 ∧ -(2 ^ 62) ≤ j ∧ j < 2 ^ 62) ∧ R (Itr i (j - i).toNat) H1) : iRng2 tr σ H R := h
theorem k_rj1 {j : Int} {R : Int → Prop} (h1 : -(2 ^ 62) ≤ j) (h2 : j < 2 ^ 62) (h : R j) : ∃ j' : Int, [V.int j] = [.int j'] ∧ -(2 ^ 62) ≤ j' ∧ j' < 2 ^ 62 ∧ R j' := ⟨j, rfl, h1, h2, h⟩
theorem k_rj2 {i j : Int} {R : Int → Int → Prop} (h1 : -(2 ^ 62) ≤ i ∧ i < 2 ^ 62 ∧ -(2 ^ 62) ≤ j ∧ j < 2 ^ 62) (h : R i j) : ∃ i' j' : Int, [V.int i, V.int j] = [.int i', .int j'] ∧ (-(2 ^ 62) ≤ i' ∧ i' < 2 ^ 62 ∧ -(2 ^ 62) ≤ j' ∧ j' < 2 ^ 62) ∧ R i' j' := ⟨i, j, rfl, h1, h⟩
theorem k_it {c A B : Prop} [Decidable c] (h1 : c → A) (h2 : ¬ c → B) : if decide c = true then A else B := by
  by_cases h : c
  · rw [if_pos (decide_eq_true h)]; exact h1 h
  · rw [decide_eq_false h]; exact h2 h
theorem k_itn {c A B : Prop} [Decidable c] (h1 : ¬ c → A) (h2 : c → B) : if (!decide c) = true then A else B := by
  by_cases h : c
  · rw [decide_eq_true h]; exact h2 h
  · rw [decide_eq_false h]; exact h1 h
theorem k_itb {b : Bool} {A B : Prop} (h1 : b = true → A) (h2 : b = false → B) : if b = true then A else B := by
  cases b with
  | true => exact h1 rfl
  | false => exact h2 rfl
theorem k_isi {x : V} {c : String} {tx : String} {b : Bool} (ht : TyX K H x (.type tx)) (hb : kitB tx c = some b) (h : Q (.bl b) H) : rIsi K [x, .ty c] H Q := ⟨x, .ty c, .type tx, .type c, b, rfl, .ty c, ht, kit_ty hb, h⟩

theorem ty_list {p : Addr} {xs : List V} (h : SqL K H p xs) : TyX K H (.ref p) (.type "list") := by
  rcases h with (h | ⟨o, h⟩) | ⟨o, its, n, h, c, _⟩
  · exact .base (.lst h)
  · exact .base (.frz h)
  · exact .kList h c
theorem k_isiL {p : Addr} {xs : List V} (hs : SqL K H p xs) (h : Q (.bl true) H) : rIsi K [.ref p, .ty "list"] H Q := k_isi (ty_list hs) (by decide +kernel) h
theorem k_isiLI {i : Int} (h : Q (.bl false) H) : rIsi K [.int i, .ty "list"] H Q := k_isi (.base (.int i)) (by decide +kernel) h
theorem k_isiI {i : Int} (h : Q (.bl true) H) : rIsi K [.int i, .ty "int"] H Q := k_isi (.base (.int i)) (by decide +kernel) h
theorem k_isiB {i : Int} (h : Q (.bl false) H) : rIsi K [.int i, .ty "bool"] H Q := k_isi (.base (.int i)) (by decide +kernel) h
theorem inV_ints (x : Int) : ∀ ns : List Int, inV (.int x) (ns.map V.int) = decide (x ∈ ns)
  | [] => rfl
  | n :: r => by
    show (eqV (.int n) (.int x) || inV (.int x) (r.map V.int)) = decide (x ∈ n :: r)
    rw [inV_ints x r]
    show ((n == x) || decide (x ∈ r)) = decide (x ∈ n :: r)
    by_cases h : n = x
    · subst h; simp
    · have : (n == x) = false := by simp [h]
      rw [this, Bool.false_or]
      have h' : ¬ x = n := fun e => h e.symm
      simp [h']
theorem flat_ints : ∀ ns : List Int, (ns.map V.int).all flatV = true
  | [] => rfl
  | _ :: r => by show (true && (r.map V.int).all flatV) = true; rw [flat_ints r]; rfl
theorem k_inI {p : Addr} {ns : List Int} {x : Int} (hs : SqL K H p (ns.map V.int)) (h : Q (.bl (decide (x ∈ ns))) H) : rIn K false (.int x) (.ref p) H Q :=
  ⟨p, _, rfl, .inl hs, rfl, flat_ints ns, by rw [if_neg Bool.false_ne_true, inV_ints]; exact h⟩
theorem k_notInI {p : Addr} {ns : List Int} {x : Int} (hs : SqL K H p (ns.map V.int)) (h : Q (.bl (!decide (x ∈ ns))) H) : rIn K true (.int x) (.ref p) H Q :=
  ⟨p, _, rfl, .inl hs, rfl, flat_ints ns, by rw [if_pos rfl, inV_ints]; exact h⟩
theorem k_intB {b : Bool} (h : Q (.int (if b then 1 else 0)) H) : rIntOf [.bl b] H Q := .inr ⟨b, rfl, h⟩
theorem at_int {ns : List Int} {i : Int} (h0 : 0 ≤ i) (h1 : i < ns.length) : atI (ns.map V.int) i = some (.int (ns.getD i.toNat 0)) := by
  obtain ⟨k, rfl⟩ : ∃ k : Nat, i = k := ⟨i.toNat, by omega⟩
  have h : k < ns.length := by omega
  refine atI_nat ?_
  rw [List.getElem?_map]
  simp [List.getElem?_eq_getElem h, List.getD_eq_getElem?_getD]
theorem k_ixI {p : Addr} {ns : List Int} {i : Int} (hs : SqL K H p (ns.map V.int)) (h0 : 0 ≤ i) (h1 : i < ns.length) (h : Q (.int (ns.getD i.toNat 0)) H) : rIxL K (.ref p) (.int i) H Q := k_ixL hs (at_int h0 h1) h
theorem k_eqD {x y : V} {c d : PyData} {n : Nat} (hx : Dp K H x c) (hy : Dp K H y d) (h1 : Sh n c) (h2 : Sh n d) (hn : n ≤ 64) (h : Q (.bl (PyData.eqv c d)) H) : rEqD K x y H Q := ⟨c, d, hx, hy, h1.shaped hn, h2.shaped hn, h⟩
theorem k_neD {x y : V} {c d : PyData} {n : Nat} (hx : Dp K H x c) (hy : Dp K H y d) (h1 : Sh n c) (h2 : Sh n d) (hn : n ≤ 64) (h : Q (.bl (!PyData.eqv c d)) H) : rNeD K x y H Q := ⟨c, d, hx, hy, h1.shaped hn, h2.shaped hn, h⟩
theorem k_neD0 {x y : V} {c : PyData} {n : Nat} (hx : Dp K H x c) (hy : Dp K H y c) (h1 : Sh n c) (hn : n ≤ 64) (h : Q (.bl false) H) : rNeD K x y H Q := k_neD hx hy h1 h1 hn (by rw [h1.refl]; exact h)
theorem k_eqD1 {x y : V} {c : PyData} {n : Nat} (hx : Dp K H x c) (hy : Dp K H y c) (h1 : Sh n c) (hn : n ≤ 64) (h : Q (.bl true) H) : rEqD K x y H Q := k_eqD hx hy h1 h1 hn (by rw [h1.refl]; exact h)
theorem k_getI {p : Addr} {ns : List Int} {i : Int} (hs : SqL K H p (ns.map V.int)) (h0 : 0 ≤ i) (h1 : i < ns.length) (h : Q (.int (ns.getD i.toNat 0)) H) : rGetL K (.ref p) (.int i) H Q := ⟨p, _, i, _, rfl, rfl, hs, h0, at_int h0 h1, h⟩
theorem k_setI {p : Addr} {ns : List Int} {k v : Int} {QH : Hp → Prop} (hp : H p = some (.lst (ns.map V.int))) (h0 : 0 ≤ k) (h1 : k < ns.length) (h : QH (upd H p (.lst ((ns.set k.toNat v).map V.int)))) : rSetL (.ref p) (.int k) (.int v) H QH :=
  ⟨p, _, k, k.toNat, rfl, rfl, hp, ixN_of h0 (by rw [List.length_map]; exact h1), by rw [List.map_set] at h; exact h⟩
theorem k_rep {p : Addr} {xs : List V} {k : Int} (hp : H p = some (.lst xs)) (h0 : 0 ≤ k) (h1 : k < 100000) (h2 : xs.length * k.toNat ≤ 100000) (h : ∀ l, H l = none → Q (.ref l) (upd H l (.lst (List.replicate k.toNat xs).flatten))) : rRep (.ref p) (.int k) H Q := ⟨p, k, xs, rfl, rfl, hp, by omega, by omega, sz h2, h⟩
theorem k_eqB {a b : Bool} (h : Q (.bl (decide (a = b))) H) : rEq (.bl a) (.bl b) H Q := ⟨rfl, by
  have e : decide (V.bl a = V.bl b) = decide (a = b) := by cases a <;> cases b <;> decide
  rw [e]; exact h⟩
theorem k_neB {a b : Bool} (h : Q (.bl (!decide (a = b))) H) : rNe (.bl a) (.bl b) H Q := ⟨rfl, by
  have e : decide (V.bl a = V.bl b) = decide (a = b) := by cases a <;> cases b <;> decide
  rw [e]; exact h⟩
/-- new objects, the heap behind as a letter -/
theorem k_newL {xs : List V} (hn : xs.length ≤ 100000) (h : ∀ p H', H p = none → Same H H' → H' p = some (.lst xs) → Q (.ref p) H') : xs.length ≤ sizeLine ∧ ∀ p, H p = none → Q (.ref p) (upd H p (.lst xs)) :=
  ⟨sz hn, fun p np => h p _ np (same_new np) upd_same⟩
theorem k_newT {xs : List V} (hn : xs.length ≤ 100000) (h : ∀ p H', H p = none → Same H H' → H' p = some (.tup xs) → Q (.ref p) H') : xs.length ≤ sizeLine ∧ ∀ p, H p = none → Q (.ref p) (upd H p (.tup xs)) :=
  ⟨sz hn, fun p np => h p _ np (same_new np) upd_same⟩
theorem k_listN {p : Addr} {ys : List V} (hs : SqL K H p ys) (h : ∀ l H', H l = none → Same H H' → H' l = some (.lst ys) → Q (.ref l) H') : rListOf K [.ref p] H Q := k_list hs fun l nl => h l _ nl (same_new nl) upd_same
theorem k_slL {a : Addr} {xs : List V} {lo hi : Option Int} (hs : SqL K H a xs) (h : ∀ p H', H p = none → Same H H' → H' p = some (.lst (cutV xs lo hi)) → Q (.ref p) H') : rSlL K (.ref a) lo hi H Q := ⟨a, xs, rfl, hs, fun p np => h p _ np (same_new np) upd_same⟩
theorem k_sl {r : V → Option Int → Option Int → Hp → VK → Prop} {tl th : TO} (h : te σ H fun x H1 => tl σ H1 fun l H2 => th σ H2 fun u H3 => r x l u H3 Q) : tSl r te tl th σ H Q := h
theorem k_nopart {QO : Option Int → Hp → Prop} (h : QO none H) : tNoPart σ H QO := h
theorem k_part {QO : Option Int → Hp → Prop} (h : te σ H fun x H1 => ∃ i, x = .int i ∧ QO (some i) H1) : tPart te σ H QO := h
theorem k_int {i : Int} {R : Int → Prop} (h : R i) : ∃ j, V.int i = .int j ∧ R j := ⟨i, rfl, h⟩
theorem rg_ints (a b : Int) : rgV a b = ((List.range (b - a).toNat).map fun i => a + (i : Nat)).map V.int := by
  unfold rgV; rw [List.map_map]; rfl
theorem k_listRg {tg : L2.St → Hp → (Int → Int → Hp → Prop) → Prop} (h : tg σ H fun a b H1 => RgOk a b ∧ ∀ q, H1 q = none → Q (.ref q) (upd H1 q (.lst (rgV a b)))) : tLstRg tg σ H Q := h
theorem k_rg1 {QR : Int → Int → Hp → Prop} (h : ta σ H fun x H1 => ∃ n, x = .int n ∧ QR 0 n H1) : tRg1 ta σ H QR := h
theorem k_rg2 {QR : Int → Int → Hp → Prop} (h : ta σ H fun x H1 => tb σ H1 fun y H2 => ∃ i j, x = .int i ∧ y = .int j ∧ QR i j H2) : tRg2 ta tb σ H QR := h
theorem k_int2 {i j : Int} {R : Int → Int → Prop} (h : R i j) : ∃ i' j', V.int i = .int i' ∧ V.int j = .int j' ∧ R i' j' := ⟨i, j, rfl, rfl, h⟩
theorem k_rgN {a b : Int} (hr : RgOk a b) (h : ∀ p H', H p = none → Same H H' → H' p = some (.lst (rgV a b)) → Q (.ref p) H') : RgOk a b ∧ ∀ q, H q = none → Q (.ref q) (upd H q (.lst (rgV a b))) := ⟨hr, fun q nq => h q _ nq (same_new nq) upd_same⟩
theorem dp_of_int {i j : Int} (e : i = j) : Dp K H (.int i) (.int j) := e ▸ .int i
end
/-! ### heaps with some places out of sight -/
def hid (S : List Addr) (H : Hp) : Hp := fun b => if b ∈ S then none else H b
theorem hid_ne {S : List Addr} {H : Hp} {b : Addr} (h : b ∉ S) : hid S H b = H b := if_neg h
theorem hid_in {S : List Addr} {H : Hp} {b : Addr} (h : b ∈ S) : hid S H b = none := if_pos h
theorem hid_some {S : List Addr} {H : Hp} {b : Addr} {o : HO} (h : hid S H b = some o) : b ∉ S ∧ H b = some o := by
  unfold hid at h
  split at h
  · cases h
  · exact ⟨by assumption, h⟩
theorem hid_same (S : List Addr) (H : Hp) : Same (hid S H) H := fun b o h => (hid_some h).2
theorem hid_mono {S : List Addr} {H H' : Hp} (e : Same H H') : Same (hid S H) (hid S H') := fun b o h => by
  obtain ⟨n, h⟩ := hid_some h
  rw [hid_ne n]
  exact e b o h
theorem hid_sub {S S' : List Addr} {H : Hp} (h : ∀ a ∈ S, a ∈ S') : Same (hid S' H) (hid S H) := fun b o e => by
  obtain ⟨n, e⟩ := hid_some e
  rw [hid_ne fun z => n (h b z)]
  exact e
/-- a change at a hidden place -/
theorem hid_upd {S : List Addr} {H : Hp} {p : Addr} {o : HO} (h : p ∈ S) : hid S (upd H p o) = hid S H := by
  funext b
  unfold hid
  split
  · rfl
  · rename_i n
    rw [upd_ne fun e => n (by rw [e]; exact h)]
theorem same_hid_upd {S : List Addr} {H0 H : Hp} {p : Addr} {o : HO} (e : Same H0 (hid S H)) (h : p ∈ S) : Same H0 (hid S (upd H p o)) := by rw [hid_upd h]; exact e
/-- what the law's data says stays when a fresh object is changed -/
theorem same_hid_mut {S : List Addr} {H0 H : Hp} {p : Addr} {o : HO} (e : Same H0 (hid S H)) (h : H0 p = none) : Same H0 (hid S (upd H p o)) := fun b u hb => by
  have := e b u hb
  obtain ⟨n, q⟩ := hid_some this
  rw [hid_ne n, upd_ne (ne_of_none hb h)]
  exact q
theorem hid_more {S S' : List Addr} {H H' : Hp} (e : Same (hid S H) (hid S H')) (h : ∀ a ∈ S, a ∈ S') : Same (hid S' H) (hid S' H') := fun b o hb => by
  obtain ⟨n, q⟩ := hid_some hb
  have n' : b ∉ S := fun z => n (h b z)
  have := e b o (by rw [hid_ne n']; exact q)
  rw [hid_ne n'] at this
  rw [hid_ne n]
  exact this
theorem same_hid_new {S : List Addr} {H : Hp} {p : Addr} {o : HO} (h : H p = none) : Same (hid S H) (hid S (upd H p o)) := hid_mono (same_new h)

theorem same_of_hid {S : List Addr} {H0 H1 H2 : Hp} (h : Same H0 H1) (f : ∀ a ∈ S, H0 a = none) (e : Same (hid S H1) (hid S H2)) : Same H0 H2 := fun b o hb => by
  have n : b ∉ S := fun z => by rw [f b z] at hb; cases hb
  have := e b o (by rw [hid_ne n]; exact h b o hb)
  rw [hid_ne n] at this
  exact this
theorem free1 {H0 : Hp} {p : Addr} (h : H0 p = none) : ∀ a ∈ [p], H0 a = none := fun a z => by rw [List.mem_singleton.mp z]; exact h
theorem cutTo {ns : List Int} (k : Nat) : cutV (ns.map V.int) none (some (k : Int)) = (ns.take k).map V.int := by
  unfold cutV
  rw [HT.sIx_none, HT.sIx_nat, List.drop_zero, List.length_map, Nat.sub_zero, List.map_take]
  by_cases h : k ≤ ns.length
  · rw [Nat.min_eq_left h]
  · rw [Nat.min_eq_right (by omega), List.take_of_length_le (by simp), List.take_of_length_le (by simp; omega)]
/-! ### the law's purse: a list of the cells and the turn -/
structure Pu (H : Hp) (pu ce : Addr) (n : Nat) (t : Int) : Prop where
  hp : H pu = some (.lst [.ref ce, .int t])
  hc : ∃ cs : List Int, cs.length = n ∧ H ce = some (.lst (cs.map V.int))
  n0 : 0 < n
  n1 : n ≤ 63
  t0 : 0 ≤ t
theorem Pu.ne {H : Hp} {pu ce : Addr} {n : Nat} {t : Int} (h : Pu H pu ce n t) : pu ≠ ce := fun e => by
  obtain ⟨cs, hl, hc⟩ := h.hc
  have hp := h.hp
  rw [e, hc] at hp
  cases cs with
  | nil => injection hp with hp; injection hp with hp; cases hp
  | cons x r => injection hp with hp; injection hp with hp; injection hp with h1 h2; cases h1
theorem Pu.fresh {H : Hp} {pu ce : Addr} {n : Nat} {t : Int} (h : Pu H pu ce n t) {p : Addr} (np : H p = none) : p ∉ [pu, ce] := fun z => by
  obtain ⟨cs, hl, hc⟩ := h.hc
  rcases List.mem_cons.mp z with rfl | z
  · rw [h.hp] at np; cases np
  · rcases List.mem_cons.mp z with rfl | z
    · rw [hc] at np; cases np
    · cases z
theorem Pu.upd {H : Hp} {pu ce : Addr} {n : Nat} {t : Int} (h : Pu H pu ce n t) {p : Addr} {o : HO} (np : p ∉ [pu, ce]) : Pu (upd H p o) pu ce n t := by
  have h1 : pu ≠ p := fun e => np (by rw [e]; exact List.mem_cons_self)
  have h2 : ce ≠ p := fun e => np (by rw [e]; exact List.mem_cons_of_mem _ List.mem_cons_self)
  obtain ⟨cs, hl, hc⟩ := h.hc
  exact ⟨by rw [upd_ne h1]; exact h.hp, ⟨cs, hl, by rw [upd_ne h2]; exact hc⟩, h.n0, h.n1, h.t0⟩
theorem Pu.same {H H' : Hp} {pu ce : Addr} {n : Nat} {t : Int} (h : Pu H pu ce n t) (e : Same H H') : Pu H' pu ce n t := by
  obtain ⟨cs, hl, hc⟩ := h.hc
  exact ⟨e _ _ h.hp, ⟨cs, hl, e _ _ hc⟩, h.n0, h.n1, h.t0⟩
/-- an object that is none of the purse's stays as it is -/
theorem keeps {S : List Addr} {H H' : Hp} (e : Same (hid S H) (hid S H')) {b : Addr} {o : HO} (hb : H b = some o) (n : b ∉ S) : H' b = some o := by
  have := e b o (by rw [hid_ne n]; exact hb)
  rw [hid_ne n] at this
  exact this
theorem fresh_hid {S : List Addr} {H H' : Hp} (e : Same (hid S H) (hid S H')) {b : Addr} (hb : H' b = none) (n : b ∉ S) : H b = none := by
  have := e.free (l := b) (by rw [hid_ne n]; exact hb)
  rw [hid_ne n] at this
  exact this
theorem getD_set_len {α : Type} (l : List α) (i : Nat) (v : α) : (l.set i v).length = l.length := List.length_set
theorem map_set_int (cs : List Int) (i : Nat) (v : Int) : (cs.map V.int).set i (.int v) = (cs.set i v).map V.int := by rw [List.map_set]

/-! ### the law's other purse: [a number, a mark, how many were drawn] -/
structure Le (H : Hp) (pu : Addr) (k : Int) : Prop where
  hp : ∃ x f : Int, H pu = some (.lst [.int x, .int f, .int k]) ∧ (f = 0 → 0 ≤ x ∧ x < 2147483629)
  k0 : 0 ≤ k
theorem Le.fresh {H : Hp} {pu : Addr} {k : Int} (h : Le H pu k) {p : Addr} (np : H p = none) : p ∉ [pu] := fun z => by
  obtain ⟨x, f, hp, _⟩ := h.hp
  rw [List.mem_singleton.mp z, hp] at np
  cases np
theorem Le.upd {H : Hp} {pu : Addr} {k : Int} (h : Le H pu k) {p : Addr} {o : HO} (np : p ∉ [pu]) : Le (upd H p o) pu k := by
  obtain ⟨x, f, hp, hx⟩ := h.hp
  exact ⟨⟨x, f, by rw [upd_ne fun e => np (by rw [e]; exact List.mem_singleton.mpr rfl)]; exact hp, hx⟩, h.k0⟩
theorem Le.same {H H' : Hp} {pu : Addr} {k : Int} (h : Le H pu k) (e : Same H H') : Le H' pu k := by
  obtain ⟨x, f, hp, hx⟩ := h.hp
  exact ⟨⟨x, f, e _ _ hp, hx⟩, h.k0⟩

/-! ### comprehensions whose block leaves the heap as it is -/
section
variable {K : PySem.W.Frag} {σ : L2.St} {H1 : Hp} {Q : VK} {g : TG} {tt : TT} {te : TE} {vs : List Nat}
theorem k_lc {wi : TI} (h : wi σ H1 fun J H1 => ∀ D, H1 D = none → ∃ W : Nat → Nat → Hp → Prop, (∃ m, W 0 m (upd H1 D (.lst []))) ∧ ∀ i m H, W i m H →
  (J.stop i H ∧ Q (.ref D) H) ∨ (J.go i H ∧ ∃ Nx : Hp → Prop, (∀ H', Nx H' → ∃ m', m' < m ∧ W (i + 1) m' H') ∧ ∀ x H', J.yld i H x H' → g x (wipe σ vs) H' fun σ2 H2 => wipe σ2 vs = wipe σ vs ∧ tt σ2 H2 fun b H3 =>
    if b = true then te σ2 H3 fun y H4 => ∃ acc, H4 D = some (.lst acc) ∧ acc.length < sizeLine ∧ Nx (upd H4 D (.lst (acc ++ [y]))) else Nx H3)) : tLc wi g tt te vs σ H1 Q := h
theorem k_wipe {σ' : L2.St} {R : Prop} (e : wipe σ' vs = wipe σ vs) (h : R) : wipe σ' vs = wipe σ vs ∧ R := ⟨e, h⟩
theorem k_yes {QT : Bool → Hp → Prop} (h : QT true H1) : tYes σ H1 QT := h
theorem take_filterMap {α β : Type} {f : α → Option β} {ps : List α} {i : Nat} {p : α} (h : ps[i]? = some p) : (ps.take (i + 1)).filterMap f = (ps.take i).filterMap f ++ (f p).toList := by
  rw [List.take_add_one, h, List.filterMap_append]
  simp [List.filterMap_cons]
  cases f p <;> rfl
/-- over a list of which ps tells the items -/
theorem lc_pure {QD : Addr → Hp → Prop} {α : Type} {a : Addr} {xs : List V} (hs : SqL K H1 a xs) (ps : List α) (hl : xs.length = ps.length) (hz : ps.length ≤ 50000) (f : α → Option V)
    (step : ∀ (i : Nat) x p H', xs[i]? = some x → ps[i]? = some p → Same H1 H' → ∀ (R : V → Hp → Prop) (R0 : Hp → Prop), (∀ y, f p = some y → R y H') → (f p = none → R0 H') →
      g x (wipe σ vs) H' fun σ2 H2 => wipe σ2 vs = wipe σ vs ∧ tt σ2 H2 fun b H3 => if b = true then te σ2 H3 R else R0 H3)
    (h : ∀ D H', H1 D = none → Same H1 H' → H' D = some (.lst (ps.filterMap f)) → QD D H') :
    ∃ a', V.ref a = .ref a' ∧ (∃ xs, SqL K H1 a' xs) ∧ ∀ D, H1 D = none → ∃ W : Nat → Nat → Hp → Prop, (∃ m, W 0 m (upd H1 D (.lst []))) ∧ ∀ i m H, W i m H →
      ((Itl K a').stop i H ∧ QD D H) ∨ ((Itl K a').go i H ∧ ∃ Nx : Hp → Prop, (∀ H', Nx H' → ∃ m', m' < m ∧ W (i + 1) m' H') ∧ ∀ x H', (Itl K a').yld i H x H' → g x (wipe σ vs) H' fun σ2 H2 => wipe σ2 vs = wipe σ vs ∧ tt σ2 H2 fun b H3 =>
        if b = true then te σ2 H3 fun y H4 => ∃ acc, H4 D = some (.lst acc) ∧ acc.length < sizeLine ∧ Nx (upd H4 D (.lst (acc ++ [y]))) else Nx H3) := by
  refine ⟨a, rfl, ⟨xs, hs⟩, fun D nD => lc_list (xs := xs) (fun i H => Same H1 H ∧ H D = some (.lst ((ps.take i).filterMap f))) ⟨same_new nD, by rw [upd_same]; simp⟩ (fun i H _ e => e.1.seq hs) ?_ ?_⟩
  · rintro i x H hx ⟨sm, hD⟩
    have hi : i < xs.length := (List.getElem?_eq_some_iff.mp hx).1
    obtain ⟨p, hp⟩ : ∃ p, ps[i]? = some p := ⟨ps[i]'(by omega), List.getElem?_eq_getElem (by omega)⟩
    have tk := take_filterMap (f := f) hp
    refine step i x p H hx hp sm _ _ (fun y hy => ⟨_, hD, szl ?_, same_mut sm nD, ?_⟩) (fun hn => ⟨sm, ?_⟩)
    · have := List.length_filterMap_le f (ps.take i)
      rw [List.length_take] at this
      omega
    · rw [upd_same, tk, hy]; rfl
    · rw [tk, hn, hD]; simp
  · rintro H ⟨sm, hD⟩
    rw [hl, List.take_length] at hD
    exact h D H nD sm hD
/-- the same where a turn may make new objects -/
theorem lc_grow {QD : Addr → Hp → Prop} {α : Type} {a : Addr} {xs : List V} (hs : SqL K H1 a xs) (ps : List α) (hl : xs.length = ps.length) (hz : ps.length ≤ 50000) (f : α → Option V)
    (step : ∀ (i : Nat) x p H', xs[i]? = some x → ps[i]? = some p → Same H1 H' → ∀ (R : V → Hp → Prop) (R0 : Hp → Prop), (∀ y H'', f p = some y → Same H' H'' → R y H'') → (∀ H'', f p = none → Same H' H'' → R0 H'') →
      g x (wipe σ vs) H' fun σ2 H2 => wipe σ2 vs = wipe σ vs ∧ tt σ2 H2 fun b H3 => if b = true then te σ2 H3 R else R0 H3)
    (h : ∀ D H', H1 D = none → Same H1 H' → H' D = some (.lst (ps.filterMap f)) → QD D H') :
    ∃ a', V.ref a = .ref a' ∧ (∃ xs, SqL K H1 a' xs) ∧ ∀ D, H1 D = none → ∃ W : Nat → Nat → Hp → Prop, (∃ m, W 0 m (upd H1 D (.lst []))) ∧ ∀ i m H, W i m H →
      ((Itl K a').stop i H ∧ QD D H) ∨ ((Itl K a').go i H ∧ ∃ Nx : Hp → Prop, (∀ H', Nx H' → ∃ m', m' < m ∧ W (i + 1) m' H') ∧ ∀ x H', (Itl K a').yld i H x H' → g x (wipe σ vs) H' fun σ2 H2 => wipe σ2 vs = wipe σ vs ∧ tt σ2 H2 fun b H3 =>
        if b = true then te σ2 H3 fun y H4 => ∃ acc, H4 D = some (.lst acc) ∧ acc.length < sizeLine ∧ Nx (upd H4 D (.lst (acc ++ [y]))) else Nx H3) := by
  refine ⟨a, rfl, ⟨xs, hs⟩, fun D nD => lc_list (xs := xs) (fun i H => Same H1 H ∧ H D = some (.lst ((ps.take i).filterMap f))) ⟨same_new nD, by rw [upd_same]; simp⟩ (fun i H _ e => e.1.seq hs) ?_ ?_⟩
  · rintro i x H hx ⟨sm, hD⟩
    have hi : i < xs.length := (List.getElem?_eq_some_iff.mp hx).1
    obtain ⟨p, hp⟩ : ∃ p, ps[i]? = some p := ⟨ps[i]'(by omega), List.getElem?_eq_getElem (by omega)⟩
    have tk := take_filterMap (f := f) hp
    refine step i x p H hx hp sm _ _ (fun y H'' hy s2 => ⟨_, s2 _ _ hD, szl ?_, same_mut (sm.trans s2) nD, ?_⟩) (fun H'' hn s2 => ⟨sm.trans s2, ?_⟩)
    · have := List.length_filterMap_le f (ps.take i)
      rw [List.length_take] at this
      omega
    · rw [upd_same, tk, hy]; rfl
    · rw [tk, hn, s2 _ _ hD]; simp
  · rintro H ⟨sm, hD⟩
    rw [hl, List.take_length] at hD
    exact h D H nD sm hD
theorem range_take {n i : Nat} (h : i < n) : (List.range n)[i]? = some i := by simp [h]
/-- over a range -/
theorem lc_pureR {QD : Addr → Hp → Prop} {lo : Int} {n : Nat} (hz : n ≤ 50000) (f : Nat → Option V)
    (step : ∀ (i : Nat) H', i < n → Same H1 H' → ∀ (R : V → Hp → Prop) (R0 : Hp → Prop), (∀ y, f i = some y → R y H') → (f i = none → R0 H') →
      g (.int (lo + (i : Nat))) (wipe σ vs) H' fun σ2 H2 => wipe σ2 vs = wipe σ vs ∧ tt σ2 H2 fun b H3 => if b = true then te σ2 H3 R else R0 H3)
    (h : ∀ D H', H1 D = none → Same H1 H' → H' D = some (.lst ((List.range n).filterMap f)) → QD D H') :
    ∀ D, H1 D = none → ∃ W : Nat → Nat → Hp → Prop, (∃ m, W 0 m (upd H1 D (.lst []))) ∧ ∀ i m H, W i m H →
      ((Itr lo n).stop i H ∧ QD D H) ∨ ((Itr lo n).go i H ∧ ∃ Nx : Hp → Prop, (∀ H', Nx H' → ∃ m', m' < m ∧ W (i + 1) m' H') ∧ ∀ x H', (Itr lo n).yld i H x H' → g x (wipe σ vs) H' fun σ2 H2 => wipe σ2 vs = wipe σ vs ∧ tt σ2 H2 fun b H3 =>
        if b = true then te σ2 H3 fun y H4 => ∃ acc, H4 D = some (.lst acc) ∧ acc.length < sizeLine ∧ Nx (upd H4 D (.lst (acc ++ [y]))) else Nx H3) := by
  refine fun D nD => lc_range (fun i H => Same H1 H ∧ H D = some (.lst (((List.range n).take i).filterMap f))) ⟨same_new nD, by rw [upd_same]; simp⟩ ?_ ?_
  · rintro i H hi ⟨sm, hD⟩
    have tk := take_filterMap (f := f) (range_take hi)
    refine step i H hi sm _ _ (fun y hy => ⟨_, hD, szl ?_, same_mut sm nD, ?_⟩) (fun hn => ⟨sm, ?_⟩)
    · have := List.length_filterMap_le f ((List.range n).take i)
      rw [List.length_take, List.length_range] at this
      omega
    · rw [upd_same, tk, hy]; rfl
    · rw [tk, hn, hD]; simp
  · rintro H ⟨sm, hD⟩
    rw [List.take_of_length_le (by simp)] at hD
    exact h D H nD sm hD
end
/-! ### min, max of a pair -/
def rMinT (K : PySem.W.Frag) : List V → Hp → VK → Prop := fun xs H Q => ∃ (p : Addr) (a b : Int), xs = [.ref p] ∧ SqT K H p [.int a, .int b] ∧ Q (.int (min a b)) H
def rMaxT (K : PySem.W.Frag) : List V → Hp → VK → Prop := fun xs H Q => ∃ (p : Addr) (a b : Int), xs = [.ref p] ∧ SqT K H p [.int a, .int b] ∧ Q (.int (max a b)) H
theorem reads_int {h : Heap} {v : Value} {n : Int} {as : List Addr} (r : Reads h v (.int n) as) : ∃ t, v = .int n t := by
  cases r; exact ⟨_, rfl⟩
theorem alike2 (a b : Int) : PySem.W.AlikeAll [.int a, .int b] := by
  refine ⟨fun x hx y hy => ?_, fun x hx => ?_⟩
  · simp only [List.mem_cons, List.not_mem_nil, or_false] at hx hy
    rcases hx with rfl | rfl <;> rcases hy with rfl | rfl <;> rfl
  · simp only [List.mem_cons, List.not_mem_nil, or_false] at hx
    rcases hx with rfl | rfl <;> (intro z; cases z)
theorem q_minT {X : Cx} (hc : X.calm = true) (hu : X.A.units + 64 < cLine) : CallR X (.builtin "min") (rMinT X.K) := by
  intro pins s σ H vs us Q I r h
  obtain ⟨p, a, b, rfl, hs, q⟩ := h
  obtain ⟨its, rv, hl, _⟩ := I.tuple hs
  rw [Vals.ref1 r]
  have ri : IntsAre its [a, b] := Vals.ints (ns := [a, b]) rv
  refine PySem.W.min_tuple_data (x := .int a) (xs := [.int b]) (as := []) (I.ok.hd hc) hl (ri.reads _) (alike2 a b) ?_ fun i v h' tk bs hi rd hk => ?_
  · have : PyData.depthAll [.int a, .int b] = 0 := rfl
    omega
  · rw [show PySem.W.minD (.int a) [.int b] = .int (min a b) from PySem.W.minD_ints a [b]] at rd
    obtain ⟨t, rfl⟩ := reads_int rd
    exact ⟨.int _, H, I.kept hk, ⟨_, rfl⟩, q⟩
theorem q_maxT {X : Cx} (hc : X.calm = true) (hu : X.A.units + 64 < cLine) : CallR X (.builtin "max") (rMaxT X.K) := by
  intro pins s σ H vs us Q I r h
  obtain ⟨p, a, b, rfl, hs, q⟩ := h
  obtain ⟨its, rv, hl, _⟩ := I.tuple hs
  rw [Vals.ref1 r]
  have ri : IntsAre its [a, b] := Vals.ints (ns := [a, b]) rv
  refine PySem.W.max_tuple_data (x := .int a) (xs := [.int b]) (as := []) (I.ok.hd hc) hl (ri.reads _) (alike2 a b) ?_ fun i v h' tk bs hi rd hk => ?_
  · have : PyData.depthAll [.int a, .int b] = 0 := rfl
    omega
  · rw [show PySem.W.maxD (.int a) [.int b] = .int (max a b) from PySem.W.maxD_ints a [b]] at rd
    obtain ⟨t, rfl⟩ := reads_int rd
    exact ⟨.int _, H, I.kept hk, ⟨_, rfl⟩, q⟩
theorem k_minT {K : PySem.W.Frag} {H : Hp} {Q : VK} {p : Addr} {a b : Int} (hs : SqT K H p [.int a, .int b]) (h : Q (.int (min a b)) H) : rMinT K [.ref p] H Q := ⟨p, a, b, rfl, hs, h⟩
theorem k_maxT {K : PySem.W.Frag} {H : Hp} {Q : VK} {p : Addr} {a b : Int} (hs : SqT K H p [.int a, .int b]) (h : Q (.int (max a b)) H) : rMaxT K [.ref p] H Q := ⟨p, a, b, rfl, hs, h⟩
end Cm

namespace Cm
open PySem PySem.Spec PyProof.Rows L2
/-! ### steps of a reading, found by instances -/
class Stp (p : Prop) (q : outParam Prop) : Prop where
  run : q → p
class Stps (p : Prop) (q : outParam Prop) : Prop where
  run : q → p
class Stps1 (p : Prop) (q : outParam Prop) : Prop where
  run : q → p
instance (priority := low) stps_nil {p : Prop} : Stps p p := ⟨id⟩
instance (priority := high) stps_cons {p q r : Prop} [a : Stp p q] [b : Stps q r] : Stps p r := ⟨fun h => a.run (b.run h)⟩
instance stps_one {p q r : Prop} [a : Stp p q] [b : Stps q r] : Stps1 p r := ⟨fun h => a.run (b.run h)⟩
theorem go {p q : Prop} [a : Stps1 p q] (h : q) : p := a.run h
class Slot (σ : L2.St) (i : Nat) (v : outParam V) : Prop where
  get : σ[i]? = some (some v)
instance {v : V} {r : L2.St} : Slot (some v :: r) 0 v := ⟨rfl⟩
instance {x : Option V} {v : V} {r : L2.St} {i : Nat} [a : Slot r i v] : Slot (x :: r) (i + 1) v := ⟨a.get⟩
class Put (σ : L2.St) (i : Nat) (v : Option V) (σ' : outParam L2.St) : Prop where
  eq : σ.set i v = σ'
instance {x v : Option V} {r : L2.St} : Put (x :: r) 0 v (v :: r) := ⟨rfl⟩
instance {x v : Option V} {r r' : L2.St} {i : Nat} [a : Put r i v r'] : Put (x :: r) (i + 1) v (x :: r') := ⟨by rw [List.set_cons_succ, a.eq]⟩
instance {σ σ0 σ' : L2.St} {j : Nat} {w : Option V} {i : Nat} {v : Option V} [a : Put σ j w σ0] [b : Put σ0 i v σ'] : Put (List.set σ j w) i v σ' := ⟨by rw [a.eq, b.eq]⟩
instance {σ σ0 : L2.St} {j : Nat} {w : Option V} {i : Nat} {v : V} [a : Put σ j w σ0] [b : Slot σ0 i v] : Slot (List.set σ j w) i v := ⟨by rw [a.eq, b.get]⟩
class Wip (σ : L2.St) (vs : List Nat) (σ' : outParam L2.St) : Prop where
  eq : wipe σ vs = σ'
instance {σ : L2.St} : Wip σ [] σ := ⟨rfl⟩
instance {σ σ' σ'' : L2.St} {i : Nat} {vs : List Nat} [b : Wip σ vs σ'] [a : Put σ' i none σ''] : Wip σ (i :: vs) σ'' := ⟨by
  show (wipe σ vs).set i none = σ''
  rw [b.eq, a.eq]⟩
instance {σ σ0 σ' : L2.St} {vs : List Nat} {i : Nat} {v : Option V} [a : Wip σ vs σ0] [b : Put σ0 i v σ'] : Put (wipe σ vs) i v σ' := ⟨by rw [a.eq, b.eq]⟩
/-- a new list, a new tuple -/
def newL (xs : List V) (H : Hp) (Q : VK) : Prop := xs.length ≤ sizeLine ∧ ∀ p, H p = none → Q (.ref p) (upd H p (.lst xs))
def newT (xs : List V) (H : Hp) (Q : VK) : Prop := xs.length ≤ sizeLine ∧ ∀ p, H p = none → Q (.ref p) (upd H p (.tup xs))
def newR (a b : Int) (H : Hp) (Q : VK) : Prop := RgOk a b ∧ ∀ q, H q = none → Q (.ref q) (upd H q (.lst (rgV a b)))
theorem kL {xs : List V} {H : Hp} {Q : VK} (hn : xs.length ≤ 100000) (h : ∀ p H', H p = none → Same H H' → H' p = some (.lst xs) → Q (.ref p) H') : newL xs H Q := ⟨sz hn, fun p np => h p _ np (same_new np) upd_same⟩
theorem kT {xs : List V} {H : Hp} {Q : VK} (hn : xs.length ≤ 100000) (h : ∀ p H', H p = none → Same H H' → H' p = some (.tup xs) → Q (.ref p) H') : newT xs H Q := ⟨sz hn, fun p np => h p _ np (same_new np) upd_same⟩
theorem kR {a b : Int} {H : Hp} {Q : VK} (hr : RgOk a b) (h : ∀ p H', H p = none → Same H H' → H' p = some (.lst (rgV a b)) → Q (.ref p) H') : newR a b H Q := ⟨hr, fun q nq => h q _ nq (same_new nq) upd_same⟩
section
variable {K : PySem.W.Frag} {σ σ' : L2.St} {H : Hp} {D : Ends} {Q : VK} {ta tb tc te to ti : TE} {t u : TT} {s1 s2 : TS} {QT : Bool → Hp → Prop} {QA : List V → Hp → Prop} {tr : TA} {QS : L2.St → Hp → Prop} {nx bk ct : L2.St → Hp → Prop} {rt : VK} {g : TG} {gs : TGs} {i j : Nat} {v w : V} {a b : Int} {wi : TI} {tS : TS}
instance : Stp (tSeq s1 s2 ⟨nx, rt, bk, ct⟩ σ H) (s1 ⟨s2 ⟨nx, rt, bk, ct⟩, rt, bk, ct⟩ σ H) := ⟨k_seq⟩
instance : Stp (tNext ⟨nx, rt, bk, ct⟩ σ H) (nx σ H) := ⟨k_next⟩
instance : Stp (tCont ⟨nx, rt, bk, ct⟩ σ H) (ct σ H) := ⟨k_cont⟩
instance : Stp (tBreak ⟨nx, rt, bk, ct⟩ σ H) (bk σ H) := ⟨k_brk⟩
instance : Stp (tAsg te g ⟨nx, rt, bk, ct⟩ σ H) (te σ H fun x H1 => g x σ H1 nx) := ⟨k_asg⟩
instance : Stp (tDrop te ⟨nx, rt, bk, ct⟩ σ H) (te σ H fun _ H1 => nx σ H1) := ⟨k_drop⟩
instance : Stp (tRet te ⟨nx, rt, bk, ct⟩ σ H) (te σ H rt) := ⟨k_ret⟩
instance : Stp (tRetN ⟨nx, rt, bk, ct⟩ σ H) (rt .non H) := ⟨k_retN⟩
instance {f : Int → Int → Int} [e : Slot σ i (.int a)] : Stp (tAug i te (ipI f) ⟨nx, rt, bk, ct⟩ σ H) (te σ H fun y H1 => ipI f (.int a) y H1 fun z H2 => gName i z σ H2 nx) := ⟨fun h => k_aug e.get h⟩
instance {f : Int → Int → Int} : Stp (ipI f (.int a) (.int b) H Q) (Q (.int (f a b)) H) := ⟨k_ipI⟩
instance : Stp (xAugL K to ti te ⟨nx, rt, bk, ct⟩ σ H) (to σ H fun o H1 => ti σ H1 fun i H2 => rGetL K o i H2 fun x H3 => te σ H3 fun y H4 => ipI (fun i j => i + j) x y H4 fun z H5 => rSetL o i z H5 fun H6 => nx σ H6) := ⟨k_augL⟩
instance : Stp (tIfS t s1 s2 D σ H) (t σ H fun b H1 => if b = true then s1 D σ H1 else s2 D σ H1) := ⟨k_if⟩
instance [e : Slot σ i v] : Stp (tVar i σ H Q) (Q v H) := ⟨fun h => k_var e.get h⟩
instance : Stp (tC v σ H Q) (Q v H) := ⟨k_c⟩
instance {r : R2} : Stp (tOp r ta tb σ H Q) (ta σ H fun x H1 => tb σ H1 fun y H2 => r x y H2 Q) := ⟨k_op⟩
instance {r : V → Hp → VK → Prop} : Stp (tUn r ta σ H Q) (ta σ H fun x H1 => r x H1 Q) := ⟨k_un⟩
instance : Stp (xAdd (.int a) (.int b) H Q) (Q (.int (a + b)) H) := ⟨k_add⟩
instance : Stp (xSub (.int a) (.int b) H Q) (Q (.int (a - b)) H) := ⟨k_sub⟩
instance : Stp (xLt (.int a) (.int b) H Q) (Q (.bl (decide (a < b))) H) := ⟨k_lt⟩
instance : Stp (xLe (.int a) (.int b) H Q) (Q (.bl (decide (a ≤ b))) H) := ⟨k_le⟩
instance : Stp (xGt (.int a) (.int b) H Q) (Q (.bl (decide (b < a))) H) := ⟨k_gt⟩
instance : Stp (xGe (.int a) (.int b) H Q) (Q (.bl (decide (b ≤ a))) H) := ⟨k_ge⟩
instance : Stp (xNeg (.int a) H Q) (Q (.int (-a)) H) := ⟨k_neg⟩
instance : Stp (rEq (.int a) (.int b) H Q) (Q (.bl (decide (a = b))) H) := ⟨k_eqI⟩
instance : Stp (rNe (.int a) (.int b) H Q) (Q (.bl (!decide (a = b))) H) := ⟨k_neI⟩
instance {a b : Bool} : Stp (rEq (.bl a) (.bl b) H Q) (Q (.bl (decide (a = b))) H) := ⟨k_eqB⟩
instance {a b : Bool} : Stp (rNe (.bl a) (.bl b) H Q) (Q (.bl (!decide (a = b))) H) := ⟨k_neB⟩
theorem k_eqNN (h : Q (.bl true) H) : rEq .non .non H Q := ⟨rfl, h⟩
theorem k_isN0 (h : Q (.bl true) H) : xIsN .non .non H Q := ⟨rfl, h⟩
theorem k_isNr {p : Addr} (h : Q (.bl false) H) : xIsN (.ref p) .non H Q := ⟨rfl, by rw [decide_eq_false (by intro z; cases z)]; exact h⟩
theorem k_isNi (h : Q (.bl false) H) : xIsN (.int a) .non H Q := ⟨rfl, by rw [decide_eq_false (by intro z; cases z)]; exact h⟩
theorem k_notN0 (h : Q (.bl false) H) : xNotN .non .non H Q := ⟨rfl, h⟩
theorem k_notNr {p : Addr} (h : Q (.bl true) H) : xNotN (.ref p) .non H Q := ⟨rfl, by rw [decide_eq_false (by intro z; cases z)]; exact h⟩
theorem k_notNi (h : Q (.bl true) H) : xNotN (.int a) .non H Q := ⟨rfl, by rw [decide_eq_false (by intro z; cases z)]; exact h⟩
instance : Stp (xIsN .non .non H Q) (Q (.bl true) H) := ⟨k_isN0⟩
instance {p : Addr} : Stp (xIsN (.ref p) .non H Q) (Q (.bl false) H) := ⟨k_isNr⟩
instance : Stp (xIsN (.int a) .non H Q) (Q (.bl false) H) := ⟨k_isNi⟩
instance : Stp (xNotN .non .non H Q) (Q (.bl false) H) := ⟨k_notN0⟩
instance {p : Addr} : Stp (xNotN (.ref p) .non H Q) (Q (.bl true) H) := ⟨k_notNr⟩
instance : Stp (xNotN (.int a) .non H Q) (Q (.bl true) H) := ⟨k_notNi⟩
instance : Stp (tTest te σ H QT) (te σ H fun x H1 => ∃ k, x = .bl k ∧ QT k H1) := ⟨k_test⟩
instance : Stp (tB te σ H QT) (te σ H fun x H1 => ∃ k, x = .bl k ∧ QT k H1) := ⟨k_B⟩
instance {b : Bool} {R : Bool → Prop} : Stp (∃ k, V.bl b = .bl k ∧ R k) (R b) := ⟨k_bl⟩
instance {R : Int → Prop} : Stp (∃ j, V.int a = .int j ∧ R j) (R a) := ⟨k_int⟩
instance {R : Int → Int → Prop} : Stp (∃ i' j', V.int a = .int i' ∧ V.int b = .int j' ∧ R i' j') (R a b) := ⟨k_int2⟩
instance : Stp (tAnd t u σ H QT) (t σ H fun c H1 => if c = true then u σ H1 QT else QT false H1) := ⟨k_and⟩
instance : Stp (tOr t u σ H QT) (t σ H fun c H1 => if c = true then QT true H1 else u σ H1 QT) := ⟨k_or⟩
instance : Stp (tNot t σ H QT) (t σ H fun c H1 => QT (!c) H1) := ⟨k_not⟩
instance : Stp (tNotV ta σ H Q) (ta σ H fun x H1 => ∃ c, x = .bl c ∧ Q (.bl (!c)) H1) := ⟨k_notV⟩
instance : Stp (tAndV ta tb σ H Q) (ta σ H fun x H1 => ∃ c, x = .bl c ∧ if c = true then tb σ H1 Q else Q (.bl false) H1) := ⟨k_andV⟩
instance : Stp (tOrV ta tb σ H Q) (ta σ H fun x H1 => ∃ c, x = .bl c ∧ if c = true then Q (.bl true) H1 else tb σ H1 Q) := ⟨k_orV⟩
instance {r : List V → Hp → VK → Prop} : Stp (tCB r tr σ H Q) (tr σ H fun vs H1 => r vs H1 Q) := ⟨k_cb⟩
instance : Stp (tNil σ H QA) (QA [] H) := ⟨k_nil⟩
instance : Stp (tCons ta tr σ H QA) (ta σ H fun x H1 => tr σ H1 fun xs H2 => QA (x :: xs) H2) := ⟨k_cons⟩
instance {sp : Sp} {E : XK} : Stp (tCall sp [] E tr σ H Q) (tr σ H fun vs H1 => sp vs H1 Q E) := ⟨fun h => k_call (by simpa only [List.append_nil] using h)⟩
instance : Stp (tLst tr σ H Q) (tr σ H fun xs H1 => newL xs H1 Q) := ⟨k_lst⟩
instance : Stp (tTup tr σ H Q) (tr σ H fun xs H1 => newT xs H1 Q) := ⟨k_tup⟩
instance {r : List V} : Stp (gCons g gs (v :: r) σ H QS) (g v σ H fun σ' H' => gs r σ' H' QS) := ⟨k_gcons⟩
instance : Stp (gNil [] σ H QS) (QS σ H) := ⟨k_gnil⟩
instance [e : Put σ i (some v) σ'] : Stp (gName i v σ H QS) (QS σ' H) := ⟨fun h => k_gname (by rw [e.eq]; exact h)⟩
instance {ts : TSet} : Stp (gSub to ti ts v σ H QS) (to σ H fun o H1 => ti σ H1 fun i H2 => ts o i v H2 fun H3 => QS σ H3) := ⟨k_gsub⟩
instance : Stp (rMax2 [.int a, .int b] H Q) (Q (.int (if b > a then b else a)) H) := ⟨k_max2⟩
instance : Stp (rMin2 [.int a, .int b] H Q) (Q (.int (if b < a then b else a)) H) := ⟨k_min2⟩
instance {T : String} {r : V → List V → Hp → VK → Prop} : Stp (tBM K T r ta tr σ H Q) (ta σ H fun x H1 => tyV K T x H1 ∧ tr σ H1 fun xs H2 => r x xs H2 Q) := ⟨k_bm⟩
instance {T : String} {r : V → List V → Hp → VK → Prop} : Stp (tBM0 K T r ta σ H Q) (ta σ H fun x H1 => tyV K T x H1 ∧ r x [] H1 Q) := ⟨k_bm0⟩
instance {A B : Prop} {i : Decidable (true = true)} : Stp (@ite Prop (true = true) i A B) A := ⟨fun h => by rw [if_pos rfl]; exact h⟩
instance {A B : Prop} {i : Decidable (false = true)} : Stp (@ite Prop (false = true) i A B) B := ⟨fun h => by rw [if_neg (by simp)]; exact h⟩
instance {A B : Prop} {i : Decidable ((!true) = true)} : Stp (@ite Prop ((!true) = true) i A B) B := ⟨fun h => by rw [if_neg (by simp)]; exact h⟩
instance {A B : Prop} {i : Decidable ((!false) = true)} : Stp (@ite Prop ((!false) = true) i A B) A := ⟨fun h => by rw [if_pos (by simp)]; exact h⟩
instance : Stp (tFor wi g tS ⟨nx, rt, bk, ct⟩ σ H) (wi σ H fun J H1 => ∃ W : Nat → Nat → L2.St → Hp → Prop, (∃ m, W 0 m σ H1) ∧ ∀ i m σ H, W i m σ H →
  (J.stop i H ∧ nx σ H) ∨ (J.go i H ∧ ∃ N : L2.St → Hp → Prop, (∀ σ' H', N σ' H' → ∃ m', m' < m ∧ W (i + 1) m' σ' H') ∧ ∀ x H', J.yld i H x H' → g x σ H' fun σ2 H2 => tS ⟨N, rt, nx, N⟩ σ2 H2)) := ⟨k_for⟩
instance {R : It → Hp → Prop} : Stp (iList K te σ H R) (te σ H fun x H1 => ∃ a, x = .ref a ∧ (∃ xs, SqL K H1 a xs) ∧ R (Itl K a) H1) := ⟨k_iList⟩
instance {R : It → Hp → Prop} : Stp (iTup K te σ H R) (te σ H fun x H1 => ∃ a, x = .ref a ∧ (∃ xs, SqT K H1 a xs) ∧ R (Itt K a) H1) := ⟨k_iTup⟩
instance {R : It → Hp → Prop} : Stp (iZip K tr σ H R) (tr σ H fun vs H1 => ∃ a b xs ys, vs = [.ref a, .ref b] ∧ SqL K H1 a xs ∧ SqL K H1 b ys ∧ R (Itz K a b) H1) := ⟨k_iZip⟩
instance {R : It → Hp → Prop} : Stp (iEnum K tr σ H R) (tr σ H fun vs H1 => ∃ a xs, vs = [.ref a] ∧ SqL K H1 a xs ∧ R (Ite K a) H1) := ⟨k_iEnum⟩
instance {R : It → Hp → Prop} : Stp (iRng1 tr σ H R) (tr σ H fun vs H1 => ∃ j : Int, vs = [.int j] ∧ -(2 ^ 62) ≤ j ∧ j < 2 ^ 62 ∧ R (Itr 0 j.toNat) H1) := ⟨k_iRng1⟩
instance {R : It → Hp → Prop} : Stp (iRng2 tr σ H R) (tr σ H fun vs H1 => ∃ i j : Int, vs = [.int i, .int j] ∧ (-(2 ^ 62) ≤ i ∧ i < 2 ^ 62 ∧ -(2 ^ 62) ≤ j ∧ j < 2 ^ 62) ∧ R (Itr i (j - i).toNat) H1) := ⟨k_iRng2⟩
instance {vs : List Nat} : Stp (tLc wi g t te vs σ H Q) (wi σ H fun J H1 => ∀ D, H1 D = none → ∃ W : Nat → Nat → Hp → Prop, (∃ m, W 0 m (upd H1 D (.lst []))) ∧ ∀ i m H, W i m H →
  (J.stop i H ∧ Q (.ref D) H) ∨ (J.go i H ∧ ∃ Nx : Hp → Prop, (∀ H', Nx H' → ∃ m', m' < m ∧ W (i + 1) m' H') ∧ ∀ x H', J.yld i H x H' → g x (wipe σ vs) H' fun σ2 H2 => wipe σ2 vs = wipe σ vs ∧ t σ2 H2 fun b H3 =>
    if b = true then te σ2 H3 fun y H4 => ∃ acc, H4 D = some (.lst acc) ∧ acc.length < sizeLine ∧ Nx (upd H4 D (.lst (acc ++ [y]))) else Nx H3)) := ⟨k_lc⟩
instance : Stp (tYes σ H QT) (QT true H) := ⟨k_yes⟩
instance {r : V → Option Int → Option Int → Hp → VK → Prop} {tl th : TO} : Stp (tSl r te tl th σ H Q) (te σ H fun x H1 => tl σ H1 fun l H2 => th σ H2 fun u H3 => r x l u H3 Q) := ⟨k_sl⟩
instance {QO : Option Int → Hp → Prop} : Stp (tNoPart σ H QO) (QO none H) := ⟨k_nopart⟩
instance {QO : Option Int → Hp → Prop} : Stp (tPart te σ H QO) (te σ H fun x H1 => ∃ i, x = .int i ∧ QO (some i) H1) := ⟨k_part⟩
instance {tg : L2.St → Hp → (Int → Int → Hp → Prop) → Prop} : Stp (tLstRg tg σ H Q) (tg σ H fun a b H1 => newR a b H1 Q) := ⟨k_listRg⟩
instance {QR : Int → Int → Hp → Prop} : Stp (tRg1 ta σ H QR) (ta σ H fun x H1 => ∃ n, x = .int n ∧ QR 0 n H1) := ⟨k_rg1⟩
instance {QR : Int → Int → Hp → Prop} : Stp (tRg2 ta tb σ H QR) (ta σ H fun x H1 => tb σ H1 fun y H2 => ∃ i j, x = .int i ∧ y = .int j ∧ QR i j H2) := ⟨k_rg2⟩
instance : Stp (rIsi K [.int a, .ty "int"] H Q) (Q (.bl true) H) := ⟨k_isiI⟩
instance : Stp (rIsi K [.int a, .ty "bool"] H Q) (Q (.bl false) H) := ⟨k_isiB⟩
instance : Stp (rIsi K [.int a, .ty "list"] H Q) (Q (.bl false) H) := ⟨k_isiLI⟩
instance {b : Bool} : Stp (rIntOf [.bl b] H Q) (Q (.int (if b then 1 else 0)) H) := ⟨k_intB⟩
theorem k_chain {r r' : R2} (h : ta σ H fun x H1 => tb σ H1 fun y H2 => r x y H2 fun z H3 => ∃ k, z = .bl k ∧ if k = true then tc σ H3 fun z H4 => r' y z H4 Q else Q (.bl false) H3) : tChain r r' ta tb tc σ H Q := h
instance {r r' : R2} : Stp (tChain r r' ta tb tc σ H Q) (ta σ H fun x H1 => tb σ H1 fun y H2 => r x y H2 fun z H3 => ∃ k, z = .bl k ∧ if k = true then tc σ H3 fun z H4 => r' y z H4 Q else Q (.bl false) H3) := ⟨k_chain⟩
theorem k_ifE (h : t σ H fun c H1 => if c = true then ta σ H1 Q else tb σ H1 Q) : tIf t ta tb σ H Q := h
instance : Stp (tIf t ta tb σ H Q) (t σ H fun c H1 => if c = true then ta σ H1 Q else tb σ H1 Q) := ⟨k_ifE⟩
def par2 (i j : Nat) (vs : List V) (σ : L2.St) (H : Hp) (nx : L2.St → Hp → Prop) : Prop := ∃ v w, vs = [v, w] ∧ nx ((σ.set i (some v)).set j (some w)) H
instance : Stp (tPar i j tr ⟨nx, rt, bk, ct⟩ σ H) (tr σ H fun vs H1 => par2 i j vs σ H1 nx) := ⟨fun h => h⟩
instance {σ'' : L2.St} [e : Put σ i (some v) σ'] [e2 : Put σ' j (some w) σ''] : Stp (par2 i j [v, w] σ H nx) (nx σ'' H) := ⟨fun h => ⟨v, w, rfl, by rw [e.eq, e2.eq]; exact h⟩⟩
end
/-! ### bits -/
def xShl : R2 := rI CPow fun i j => .int (i * 2 ^ j.toNat)
def xAnd : R2 := rI0 fun i j => .int (Builtin.bitAnd i j)
theorem k_shl {H : Hp} {Q : VK} {i j : Int} (hc : CPow i j) (h : Q (.int (i * 2 ^ j.toNat)) H) : xShl (.int i) (.int j) H Q := ⟨i, j, rfl, rfl, hc, h⟩
instance {H : Hp} {Q : VK} {i j : Int} : Stp (xAnd (.int i) (.int j) H Q) (Q (.int (Builtin.bitAnd i j)) H) := ⟨fun h => ⟨i, j, rfl, rfl, h⟩⟩
/-! ### list.count of flat values -/
def cntV (y : V) (ys : List V) : Nat := ys.countP fun z => eqV z y
def rCntV (K : PySem.W.Frag) : V → List V → Hp → VK → Prop := fun x xs H Q => ∃ (a : Addr) (ys : List V) (y : V), x = V.ref a ∧ xs = [y] ∧ SqL K H a ys ∧ flatV y = true ∧ ys.all flatV = true ∧ Q (.int (cntV y ys : Nat)) H
theorem cntV_eq {y : V} : ∀ {ys : List V} {its : List Value}, Vals ys its → ys.all flatV = true → its.countP (eqU y) = cntV y ys
  | _, _, .nil, _ => rfl
  | a :: as, _ :: _, .cons r rs, f => by
    have f1 : flatV a = true ∧ as.all flatV = true := by simpa using f
    unfold cntV
    rw [List.countP_cons, List.countP_cons, eqU_of r f1.1, cntV_eq rs f1.2]
    rfl
theorem mt_lcountV {X : Cx} : MtR X "list.count" (rCntV X.K) := by
  intro pins s σ H x xs v us Q I rx rxs h
  obtain ⟨a, ys, y, rfl, rfl, hs, fy, fys, q⟩ := h
  cases rx
  cases rxs with
  | cons ry rt =>
    rename_i uy ut
    cases rt
    obtain ⟨its, rv, ⟨⟨cls, dd, data, sl⟩, n, ho, hc, hdn, hd⟩, hlen⟩ := I.list hs
    simp only at hc hd
    subst hc hd
    refine call_meets PySem.F.slot_list_count ⟨_, ho, rfl⟩ PySem.F.entry_list_count (PySem.F.args_list_count_2 _ _)
      (SeqAt.list_countAt a its.toArray n dd sl uy (eqU y)) ⟨ho, fun u' hu' => mem_eqAt ry fy rv fys u' (by simpa using hu'), ?_⟩
    have ec : its.toArray.toList.countP (eqU y) = cntV y ys := cntV_eq rv fys
    refine ⟨.int (cntV y ys : Nat), H, I.tok _, ⟨s.toks, ?_⟩, q⟩
    show Value.int ((its.toArray.toList.countP (eqU y) : Nat) : Int) s.toks = Value.int ((cntV y ys : Nat) : Int) s.toks
    rw [ec]
section
variable {K : PySem.W.Frag} {H : Hp} {Q : VK}
theorem k_catN {p q : Addr} {xs ys : List V} (hp : H p = some (.lst xs)) (hq : H q = some (.lst ys)) (hz : xs.length + ys.length ≤ 100000) (h : ∀ l H', H l = none → Same H H' → H' l = some (.lst (xs ++ ys)) → Q (.ref l) H') : rCat (.ref p) (.ref q) H Q := k_cat hp hq hz fun l nl => h l _ nl (same_new nl) upd_same
theorem k_cntV {p : Addr} {ys : List V} {y : V} (hs : SqL K H p ys) (fy : flatV y = true) (fys : ys.all flatV = true) (h : Q (.int (cntV y ys : Nat)) H) : rCntV K (.ref p) [y] H Q := ⟨p, ys, y, rfl, rfl, hs, fy, fys, h⟩
theorem k_indexV {p : Addr} {ys : List V} {y z : V} {j : Nat} (hs : SqL K H p ys) (fy : flatV y = true) (fys : ys.all flatV = true) (hj : ys[j]? = some z) (hz : eqV z y = true) (hn : ∀ (m : Nat) (z' : V), m < j → ys[m]? = some z' → eqV z' y = false) (h : Q (.int (j : Nat)) H) : rIndex K (.ref p) [y] H Q := ⟨p, ys, y, j, z, rfl, rfl, hs, fy, fys, hj, hz, hn, h⟩
theorem k_sortedN {a : Addr} {ns : List Int} (hs : SqL K H a (ns.map V.int)) (h : ∀ (ns' : List Int) (p : Addr) H', ns'.Perm ns → ns'.Pairwise (· ≤ ·) → H p = none → Same H H' → H' p = some (.lst (ns'.map V.int)) → Q (.ref p) H') : rSortedI K [.ref a] H Q := k_sortedI hs fun ns' p h1 h2 h3 => h ns' p _ h1 h2 h3 (same_new h3) upd_same
end
/-! ### facts of older heaps -/
theorem hid_back {S : List Addr} {X Y : Hp} (h : Same X (hid S Y)) : Same X Y := h.trans (hid_same S Y)
theorem at_same {X Y : Hp} {p : Addr} {o : HO} (h : X p = some o) (s : Same X Y) : Y p = some o := s _ _ h
theorem sl_at {K : PySem.W.Frag} {X Y : Hp} {p : Addr} {xs : List V} (h : X p = some (.lst xs)) (s : Same X Y) : SqL K Y p xs := sl (s _ _ h)
theorem st_at {K : PySem.W.Frag} {X Y : Hp} {p : Addr} {xs : List V} (h : X p = some (.tup xs)) (s : Same X Y) : SqT K Y p xs := stp (s _ _ h)
theorem dpI_at {K : PySem.W.Frag} {X Y : Hp} {p : Addr} {ns : List Int} (h : X p = some (.lst (ns.map V.int))) (s : Same X Y) : Dp K Y (.ref p) (dInts ns) := dp_of_ints (sl (s _ _ h))
theorem dpP_at {K : PySem.W.Frag} {X Y : Hp} {p : Addr} {a b : Int} (h : X p = some (.tup [.int a, .int b])) (s : Same X Y) : Dp K Y (.ref p) (dPair (a, b)) := dp_of_pair (stp (s _ _ h))
theorem hid_free {S : List Addr} {H : Hp} (f : ∀ a ∈ S, H a = none) : Same H (hid S H) := fun b o hb => by
  rw [hid_ne fun z => by rw [f b z] at hb; cases hb]; exact hb
theorem hid_free1 {p : Addr} {H : Hp} (f : H p = none) : Same H (hid [p] H) := hid_free (free1 f)
theorem cut_to (xs : List V) (k : Nat) : cutV xs none (some (k : Int)) = xs.take k := by
  unfold cutV
  rw [HT.sIx_none, HT.sIx_nat, List.drop_zero, Nat.sub_zero]
  by_cases h : k ≤ xs.length
  · rw [Nat.min_eq_left h]
  · rw [Nat.min_eq_right (by omega), List.take_of_length_le (by simp), List.take_of_length_le (by omega)]
theorem cut_from (xs : List V) (k : Nat) : cutV xs (some (k : Int)) none = xs.drop k := by
  unfold cutV
  rw [HT.sIx_none, HT.sIx_nat]
  by_cases h : k ≤ xs.length
  · rw [Nat.min_eq_left h]
    exact List.take_of_length_le (by simp)
  · rw [Nat.min_eq_right (by omega), List.drop_of_length_le (Nat.le_refl _), List.drop_of_length_le (by omega), List.take_nil]
theorem dpa_take {K : PySem.W.Frag} {H : Hp} : ∀ {vs : List V} {ds : List PyData} (n : Nat), DpAll K H vs ds → DpAll K H (vs.take n) (ds.take n)
  | _, _, 0, _ => by simp only [List.take_zero]; exact .nil
  | _, _, n + 1, .nil => by simp only [List.take_nil]; exact .nil
  | _, _, n + 1, .cons h r => .cons h (dpa_take n r)
theorem dpa_drop {K : PySem.W.Frag} {H : Hp} : ∀ {vs : List V} {ds : List PyData} (n : Nat), DpAll K H vs ds → DpAll K H (vs.drop n) (ds.drop n)
  | _, _, 0, h => h
  | _, _, n + 1, .nil => by simp only [List.drop_nil]; exact .nil
  | _, _, n + 1, .cons _ r => dpa_drop n r
theorem Le.at {H H' : Hp} {pu p : Addr} {k : Int} {o : HO} (L : Le H pu k) (np : H p = none) (e : H' p = some o) : hid [pu] H' p = some o := by rw [hid_ne (L.fresh np)]; exact e
theorem hat {H : Hp} {pu p : Addr} {o : HO} (np : p ∉ [pu]) (e : H p = some o) : hid [pu] H p = some o := by rw [hid_ne np]; exact e
theorem kLp {xs : List V} {H : Hp} {Q : VK} {pu : Addr} {k : Int} (L : Le H pu k) (hn : xs.length ≤ 100000) (h : ∀ p H', H p = none → Same H H' → hid [pu] H' p = some (.lst xs) → Q (.ref p) H') : newL xs H Q := ⟨sz hn, fun p np => h p _ np (same_new np) (L.at np upd_same)⟩
theorem kTp {xs : List V} {H : Hp} {Q : VK} {pu : Addr} {k : Int} (L : Le H pu k) (hn : xs.length ≤ 100000) (h : ∀ p H', H p = none → Same H H' → hid [pu] H' p = some (.tup xs) → Q (.ref p) H') : newT xs H Q := ⟨sz hn, fun p np => h p _ np (same_new np) (L.at np upd_same)⟩
theorem sh_l2 {n : Nat} {c d : PyData} (h1 : Sh n c) (h2 : Sh n d) : Sh (n + 1) (.list [c, d]) := sh_list fun x hx => by
  rcases List.mem_cons.mp hx with rfl | hx
  · exact h1
  · rcases List.mem_cons.mp hx with rfl | hx
    · exact h2
    · cases hx
section
variable {K : PySem.W.Frag} {σ : L2.St} {H1 : Hp} {Q : VK} {g : TG} {tt : TT} {te : TE} {vs : List Nat}
/-- over a range, new objects may be made -/
theorem lc_growR {QD : Addr → Hp → Prop} {lo : Int} {n : Nat} (hz : n ≤ 50000) (f : Nat → Option V)
    (step : ∀ (i : Nat) H', i < n → Same H1 H' → ∀ (R : V → Hp → Prop) (R0 : Hp → Prop), (∀ y H'', f i = some y → Same H' H'' → R y H'') → (∀ H'', f i = none → Same H' H'' → R0 H'') →
      g (.int (lo + (i : Nat))) (wipe σ vs) H' fun σ2 H2 => wipe σ2 vs = wipe σ vs ∧ tt σ2 H2 fun b H3 => if b = true then te σ2 H3 R else R0 H3)
    (h : ∀ D H', H1 D = none → Same H1 H' → H' D = some (.lst ((List.range n).filterMap f)) → QD D H') :
    ∀ D, H1 D = none → ∃ W : Nat → Nat → Hp → Prop, (∃ m, W 0 m (upd H1 D (.lst []))) ∧ ∀ i m H, W i m H →
      ((Itr lo n).stop i H ∧ QD D H) ∨ ((Itr lo n).go i H ∧ ∃ Nx : Hp → Prop, (∀ H', Nx H' → ∃ m', m' < m ∧ W (i + 1) m' H') ∧ ∀ x H', (Itr lo n).yld i H x H' → g x (wipe σ vs) H' fun σ2 H2 => wipe σ2 vs = wipe σ vs ∧ tt σ2 H2 fun b H3 =>
        if b = true then te σ2 H3 fun y H4 => ∃ acc, H4 D = some (.lst acc) ∧ acc.length < sizeLine ∧ Nx (upd H4 D (.lst (acc ++ [y]))) else Nx H3) := by
  refine fun D nD => lc_range (fun i H => Same H1 H ∧ H D = some (.lst (((List.range n).take i).filterMap f))) ⟨same_new nD, by rw [upd_same]; simp⟩ ?_ ?_
  · rintro i H hi ⟨sm, hD⟩
    have tk := take_filterMap (f := f) (range_take hi)
    refine step i H hi sm _ _ (fun y H'' hy s2 => ⟨_, s2 _ _ hD, szl ?_, same_mut (sm.trans s2) nD, ?_⟩) (fun H'' hn s2 => ⟨sm.trans s2, ?_⟩)
    · have := List.length_filterMap_le f ((List.range n).take i)
      rw [List.length_take, List.length_range] at this
      omega
    · rw [upd_same, tk, hy]; rfl
    · rw [tk, hn, s2 _ _ hD]; simp
  · rintro H ⟨sm, hD⟩
    rw [List.take_of_length_le (by simp)] at hD
    exact h D H nD sm hD
end
/-- behind an if: what follows is shown once -/
theorem ifjoin {c : Bool} {σ : L2.St} {H : Hp} {s1 s2 : TS} {nx bk ct : L2.St → Hp → Prop} {rt : VK} (G : L2.St → Hp → Prop) (main : ∀ σ H, G σ H → nx σ H) (h : (∀ σ H, G σ H → nx σ H) → if c = true then s1 ⟨nx, rt, bk, ct⟩ σ H else s2 ⟨nx, rt, bk, ct⟩ σ H) : if c = true then s1 ⟨nx, rt, bk, ct⟩ σ H else s2 ⟨nx, rt, bk, ct⟩ σ H := h main
theorem k_repN {H : Hp} {Q : VK} {p : Addr} {xs : List V} {k : Int} (hp : H p = some (.lst xs)) (h0 : 0 ≤ k) (h1 : k < 100000) (h2 : xs.length * k.toNat ≤ 100000) (h : ∀ l H', H l = none → Same H H' → H' l = some (.lst (List.replicate k.toNat xs).flatten) → Q (.ref l) H') : rRep (.ref p) (.int k) H Q := k_rep hp h0 h1 h2 fun l nl => h l _ nl (same_new nl) upd_same
theorem ixN_last {n : Nat} (h : 0 < n) : ixN n (-1) = some (n - 1) := by
  unfold ixN
  rw [if_neg (by omega)]
  split
  · simp; omega
  · omega
theorem ifsjoin {t : TT} {σ : L2.St} {H : Hp} {s1 s2 : TS} {nx bk ct : L2.St → Hp → Prop} {rt : VK} (G : L2.St → Hp → Prop) (main : ∀ σ H, G σ H → nx σ H) (h : (∀ σ H, G σ H → nx σ H) → tIfS t s1 s2 ⟨nx, rt, bk, ct⟩ σ H) : tIfS t s1 s2 ⟨nx, rt, bk, ct⟩ σ H := h main
/-- over a list or a tuple -/
def iAny (w1 w2 : TI) : TI := fun σ H R => w1 σ H R ∨ w2 σ H R
theorem pi_any {X : Cx} {tg it : Expr} {w1 w2 : TI} (h1 : PI X tg it w1) (h2 : PI X tg it w2) : PI X tg it (iAny w1 w2) := ⟨fun pins s σ H R I h => by
  rcases h with h | h
  · exact h1.run pins s σ H R I h
  · exact h2.run pins s σ H R I h⟩
theorem k_inT2 {K : PySem.W.Frag} {H : Hp} {Q : VK} {p : Addr} {x a b : Int} (hs : SqT K H p [.int a, .int b]) (h : Q (.bl (decide (x = a ∨ x = b))) H) : rIn K false (.int x) (.ref p) H Q :=
  ⟨p, _, rfl, .inr hs, rfl, flat_ints [a, b], by
    rw [if_neg Bool.false_ne_true, show ([V.int a, .int b] : List V) = List.map V.int [a, b] from rfl, inV_ints]
    have e : decide (x ∈ [a, b]) = decide (x = a ∨ x = b) := by simp
    rw [e]; exact h⟩
theorem Pu.at {H H' : Hp} {pu ce p : Addr} {n : Nat} {t : Int} {o : HO} (L : Pu H pu ce n t) (np : H p = none) (e : H' p = some o) : hid [pu, ce] H' p = some o := by rw [hid_ne (L.fresh np)]; exact e
theorem kLq {xs : List V} {H : Hp} {Q : VK} {pu ce : Addr} {n : Nat} {t : Int} (L : Pu H pu ce n t) (hn : xs.length ≤ 100000) (h : ∀ p H', H p = none → Same H H' → hid [pu, ce] H' p = some (.lst xs) → Q (.ref p) H') : newL xs H Q := ⟨sz hn, fun p np => h p _ np (same_new np) (L.at np upd_same)⟩
theorem kTq {xs : List V} {H : Hp} {Q : VK} {pu ce : Addr} {n : Nat} {t : Int} (L : Pu H pu ce n t) (hn : xs.length ≤ 100000) (h : ∀ p H', H p = none → Same H H' → hid [pu, ce] H' p = some (.tup xs) → Q (.ref p) H') : newT xs H Q := ⟨sz hn, fun p np => h p _ np (same_new np) (L.at np upd_same)⟩
end Cm

namespace Cm
open PySem PySem.Spec PyProof.Rows L2

/-! ### a caught exception that is kept as a value -/
def ExV (cls : Value) (d : Option Addr) (a : Addr) : HO := .ext fun h => ∃ (oe : Obj) (vs : Array Value), h.get? a = some oe ∧ Zc cls d oe ∧ oe.data = .fields vs
theorem exV_ok {P : Program} {w : World} {H : Hp} {h : Heap} {a : Addr} {cls : Value} {d : Option Addr} {oe : Obj} {vs : Array Value} (he : h.get? a = some oe) (hz : Zc cls d oe) (hd : oe.data = .fields vs) : ObjOk P w H h a (ExV cls d a) :=
  ⟨⟨oe, vs, he, hz, hd⟩, ⟨oe, he⟩, fun h1 h2 ⟨o1, v1, g1, g2, g3⟩ k => ⟨o1, v1, k _ g1, g2, g3⟩⟩
theorem exV_at {P : Program} {w : World} {H : Hp} {h : Heap} {a : Addr} {cls : Value} {d : Option Addr} (hok : HOk P w H h) (e : H a = some (ExV cls d a)) : ∃ (oe : Obj) (vs : Array Value), h.get? a = some oe ∧ Zc cls d oe ∧ oe.data = .fields vs :=
  (hok a _ e).1
section
variable {X : Cx} {pins : List (Addr × Obj)} {σ : L2.St} {H : Hp} {s : Shared}
/-- an object of this def's own time is taken into sight -/
theorem track {a : Addr} {cls : Value} {d : Option Addr} {oe : Obj} {vs : Array Value} (I : Inv X pins σ H s) (he : s.heap.get? a = some oe) (hz : Zc cls d oe) (hd : oe.data = .fields vs) (na : H a = none) (n0 : X.s_0.heap.get? a = none)
    (nL : a ≠ X.env.locals) (np : ∀ p ∈ X.pn ++ pins, p.1 ≠ a) : Inv X pins σ (upd H a (ExV cls d a)) s := by
  have ne : ∀ {b : Addr} {o : HO}, H b = some o → b ≠ a := fun q => ne_of_none q na
  have nb : ∀ b o, X.s_0.heap.get? b = some o → b ≠ a := fun b o q z => by rw [z, n0] at q; cases q
  refine { I with base := ?_, free := ?_, freeC := ?_, pin := ?_, hok := ?_ }
  · have B := I.base
    refine ⟨B.keep, B.slot, fun b o q n x => ?_, B.there, fun b xs q => ?_, fun b o u q => ?_, fun b ps q => ?_⟩
    · rw [upd_ne (nb b o q)]; exact B.free b o q n x
    · have z := B.tups b xs q; rw [upd_ne (ne z)]; exact z
    · have z := B.frzs b o u q; rw [upd_ne (ne z)]; exact z
    · obtain ⟨m, z⟩ := B.tbls b ps q; exact ⟨m, by rw [upd_ne (ne z)]; exact z⟩
  · rw [upd_ne nL.symm]; exact I.free
  · intro x c q
    have nc : c ≠ a := fun z => by
      obtain ⟨v, oc, g1, g2⟩ := I.cell x c q
      rw [z, he] at g1
      cases g1
      rw [hd] at g2
      cases g2
    rw [upd_ne nc]; exact I.freeC x c q
  · intro p hp
    obtain ⟨g1, g2, g3⟩ := I.pin p hp
    exact ⟨g1, by rw [upd_ne (np p hp)]; exact g2, g3⟩
  · intro b u q
    by_cases hb : b = a
    · rw [hb] at q ⊢
      rw [upd_same] at q
      cases q
      exact exV_ok he hz hd
    · rw [upd_ne hb] at q
      exact (I.hok b u q).stay (fun _ _ _ z => z) (fun c z => by rw [upd_ne (ne z)]; exact z) fun c xs z => by rw [upd_ne (ne z)]; exact z
end
/-- what «except x as n: suite» wishes, the exception kept behind it -/
def wKept (K : PySem.W.Frag) (c : Value) (i : Nat) (ts : Addr → Value → Option Addr → TS) (Wout : WX) (D : Ends) : WX := fun cls d σ H =>
  ∃ b, PySem.W.exmOne K cls c = some b ∧
    (b = true → ∀ a, H a = none → ts a cls d ⟨fun σ' H' => D.nx (σ'.set i none) (upd H' a (ExV cls d a)), fun _ _ => False, fun _ _ => False, fun _ _ => False⟩ (σ.set i (some (.ref a))) H) ∧ (b = false → Wout cls d σ H)
section
variable {X : Cx} {x n : Str} {c : Value} {i : Nat} {body suite : List Stmt} {b0 : Stmt} {np pos pos' : Pos} {tb : WX → TS} {ts : Addr → Value → Option Addr → TS} {Wout : WX}
theorem ps_try_kept (hst : X.stack = X.env :: X.outer) (hfm : X.env.frame = some X.env.locals) (hex : X.ex = []) (hN : X.N.Nodup) (hi : X.N[i]? = some n) (hln : X.env.kindOf n = some .local) (hc : Names X x c) (tk : Takes X Wout)
    (hb : ∀ (W : WX) (pn : List (Addr × Obj)) (xe : Value → Shared → Prop), Takes (X.tr pn xe) W → PassesOwn (model X.prog X.w) X.A X.env xe → PSs (X.tr pn xe) body (tb W))
    (hsu : ∀ (a : Addr) (oe : Obj) (cls : Value) (d : Option Addr) (pn : List (Addr × Obj)), Zc cls d oe → (∃ vs, oe.data = .fields vs) → PSs (X.suite a ((a, oe) :: pn)) (b0 :: suite) (ts a cls d)) :
    PS X (.Try body [.ExceptHandler (some (.Name x np)) (some n) (b0 :: suite) pos'] [] [] pos) (fun D σ H => tb (wKept X.K c i ts Wout D) D σ H) := by
  constructor
  intro pins s σ H D I h
  have ok := I.ok
  have frm : X.A.frames = some (X.env :: X.outer) := by rw [← hst]; exact ok.frames
  refine wpAny_Try_except (wpAny_mono ((hb (wKept X.K c i ts Wout D) (X.pn ++ pins) _ (fun u s1 air => ?caught) PassesOwn.looking).run [] s σ H D (I.toTry _) h) (fun f s1 q => ?through) (fun e s1 q => q))
  case through =>
    cases f with
    | next => obtain ⟨σ1, H1, J, q⟩ := q; exact wpAny_execs_nil ⟨σ1, H1, J.ofTry ok, q⟩
    | brk => obtain ⟨σ1, H1, J, q⟩ := q; exact ⟨σ1, H1, J.ofTry ok, q⟩
    | cont => obtain ⟨σ1, H1, J, q⟩ := q; exact ⟨σ1, H1, J.ofTry ok, q⟩
    | ret u => obtain ⟨v, σ1, H1, J, r, q⟩ := q; exact ⟨v, σ1, H1, J.ofTry ok, r, q⟩
  case caught =>
    obtain ⟨a, B, sI, pins1, σ1, H1, cls, d, rfl, J0, ground, up, sky, na, os, bare, b, hcls, yes, no⟩ := air
    have J : Inv X pins σ1 H1 sI := J0.ofTry ok
    rw [show (X.tr (X.pn ++ pins) _).stack = X.stack from rfl, hst] at sky
    have Ba : B.get? a = none := by
      rcases sky with z | z | z
      · exact z.2.1
      · exact z.2.1
      · exact z.2.1
    show wpAny (model X.prog X.w) X.A (noteFrame (.ref a) X.env) _ _ _
    refine Sky.land Zc.steady frm hfm sky fun h2 fly up2 => ?_
    obtain ⟨o2, v2, g2, z2, d2⟩ := fly.there
    have J2 : Inv X pins σ1 H1 { s1 with heap := h2 } := J.landed ground fly.1 (up.trans up2) os bare
    have out : a ∉ frs (X.env :: X.outer) := fun hm => by
      obtain ⟨_, o', e', hnf⟩ := fly.2.2.1.mem hm
      rw [g2] at e'
      cases e'
      exact hnf _ d2
    have nL : a ≠ X.env.locals := fun z => out (List.mem_filterMap.mpr ⟨X.env, List.mem_cons_self, by rw [hfm, z]⟩)
    have nF : a ∉ X.fs := fun hm => by
      obtain ⟨e, he, q⟩ := List.mem_filterMap.mp hm
      exact out (List.mem_filterMap.mpr ⟨e, List.mem_cons_of_mem _ he, q⟩)
    have sIa : sI.heap.get? a = none := by
      cases q : sI.heap.get? a with
      | none => rfl
      | some o =>
        have := ground a o q (by rw [show (X.tr (X.pn ++ pins) _).stack = X.stack from rfl, hst]; exact out)
        rw [Ba] at this; cases this
    have n0 : X.s_0.heap.get? a = none := by
      cases q : X.s_0.heap.get? a with
      | none => rfl
      | some o =>
        obtain ⟨o', q'⟩ := J.base.there a o q (by rw [hex]; simp)
        rw [sIa] at q'; cases q'
    have pinNe : ∀ p ∈ X.pn ++ pins, p.1 ≠ a := fun p hp z => by
      have := (J.pin p hp).1
      rw [z, sIa] at this; cases this
    refine wpAny_handleBy_cons (codeAny_handlers_test ?_) (fun q => by cases q)
    have T2 := J2.suite g2 d2 na nL nF
    have ty : PySem.W.Looks (model X.prog X.w) h2 (typeOf (.ref a)) cls := fun _ _ _ _ k q => wpAny_typeOf_ref (k _ _ g2) (by rw [z2.1]; exact q)
    have named : ∀ {Q : Value → Shared → Prop} {E : Value → Shared → Prop}, Q c { s1 with heap := h2 } → wpAny (model X.prog X.w) (X.A.mark (some (.ref a))) (eval (.Name x np) X.env) Q E { s1 with heap := h2 } := fun {Q E} q => by
      obtain ⟨gl, db, hm | ⟨hm, hv, hn⟩⟩ := hc
      · exact ld_glob (X := X.suite a ((a, o2) :: (X.pn ++ pins))) T2 gl hm q db
      · exact ld_blt (X := X.suite a ((a, o2) :: (X.pn ++ pins))) T2 gl hm hv q hn db
    refine named ((PySem.W.exm_one (M := model X.prog X.w) J2.kIn ty hcls).here ?_)
    cases b with
    | false =>
      show wpAny _ X.A (handleBy (.ref a) X.env []) _ _ _
      refine wpAny_handleBy_nil ?_
      obtain ⟨_, _, _, oe, vs, T, oT, ts', he, hz, hd, h1, hr⟩ := id fly
      unfold PySem.passOn
      refine wpAny_bind (wpAny_field he hd h1 ?_)
      rw [if_neg (show ¬ ((Value.ref T == Value.none) = true) by simp)]
      have on : wpAny (model X.prog X.w) X.A (setFlight (.ref a) X.env.frame) (fun _ s4 => wpAny (model X.prog X.w) X.A (throw (.ref a) : Sem Flow) (SP X pins D) X.xe s4) X.xe { s1 with heap := h2 } := by
        rw [hfm]
        refine HandSPX.setFlight_upZ fly fun h4 hh4 up4 => wpAny_throw (tk _ _ ⟨a, B, sI, pins, σ1, H1, cls, d, rfl, J, ground, (up.trans up2).trans up4, .inr (.inr (by rw [hst]; exact hh4)), na, os, bare, no rfl⟩)
      first
        | exact wpAny_bind (wpAny_pure (wpAny_bind on))
        | exact wpAny_bind on
    | true =>
      refine codeAny_handlers_suite_as (HandSPX.lands_againZ fly fun h3 fly3 up3 => ?_)
      obtain ⟨o3, v3, g3, z3, d3⟩ := fly3.there
      have J3 : Inv X pins σ1 H1 { s1 with heap := h3 } := J.landed ground fly3.1 ((up.trans up2).trans up3) os bare
      refine store_ok (X := X.suite a ((a, o3) :: (X.pn ++ pins))) (v := .ref a) (J3.suite g3 d3 na nL nF) hN hi (.inl hln) rfl (fun s4 S4 => ?_) (.inr hln)
      refine wpAny_mono ((hsu a o3 cls d (X.pn ++ pins) z3 ⟨_, d3⟩).run [] s4 _ H1 _ S4 (yes rfl a na)) (fun f s5 q => ?_) (fun _ _ z => z.elim)
      cases f with
      | brk => obtain ⟨_, _, _, q⟩ := q; exact q.elim
      | cont => obtain ⟨_, _, _, q⟩ := q; exact q.elim
      | ret u => obtain ⟨_, _, _, _, _, q⟩ := q; exact q.elim
      | next =>
        obtain ⟨σ5, H5, S5, q5⟩ := q
        have K5 : Inv X ((a, o3) :: pins) σ5 H5 s5 := ⟨ok, S5.os, S5.bare, S5.base, S5.loc, S5.cell, S5.free, S5.freeC, fun p hp => S5.pin p (by
          rw [List.append_nil]
          rcases List.mem_append.mp hp with hp | hp
          · exact List.mem_cons_of_mem _ (List.mem_append_left _ hp)
          · rcases List.mem_cons.mp hp with hp | hp
            · rw [hp]; exact List.mem_cons_self
            · exact List.mem_cons_of_mem _ (List.mem_append_right _ hp)), S5.hok, S5.len⟩
        refine gone_ok K5 hN hi hln fun s6 K6 => ?_
        obtain ⟨g6, na6, _⟩ := K6.pin (a, o3) (List.mem_append_right _ List.mem_cons_self)
        have K7 : Inv X pins (σ5.set i none) H5 s6 := { K6 with pin := fun p hp => K6.pin p (by
          rcases List.mem_append.mp hp with hp | hp
          · exact List.mem_append_left _ hp
          · exact List.mem_append_right _ (List.mem_cons_of_mem _ hp)) }
        exact ⟨_, _, track K7 g6 z3 d3 na6 n0 nL pinNe, q5⟩
end

/-! ### isinstance of a kept exception, of None and of the other values -/
/-- what an exception class of the program must say, so that its instances are asked rightly -/
structure ExK (K : PySem.W.Frag) (D : Addr) : Prop where
  hg : PySem.W.findIn K (.ref D) "__getattribute__" = some (some (.builtin "BaseException.__getattribute__"))
  hk : PySem.W.findIn K (.ref D) "__getattr__" = some none
  hs : PySem.W.subIn K (.ref D) (.type "BaseException") = some true
  hd : PySem.W.hasDictIn K D = true
  ha : PySem.W.findIn K (.ref D) "__class__" = some (some (.builtin "object.__class__"))
  hn : PySem.W.specialIn K (.builtin "object.__class__") "__get__" = some (some (.builtin "getset_descriptor.__get__"))
  ht : PySem.W.takesIn K (.builtin "object.__class__") = some true
  hm : PySem.W.mroIn K D (.type "object") = some true
def exkB (K : PySem.W.Frag) (D : Addr) : Bool :=
  (PySem.W.findIn K (.ref D) "__getattribute__" == some (some (.builtin "BaseException.__getattribute__"))) && ((PySem.W.findIn K (.ref D) "__getattr__" == some none) && ((PySem.W.subIn K (.ref D) (.type "BaseException") == some true) && (PySem.W.hasDictIn K D &&
  ((PySem.W.findIn K (.ref D) "__class__" == some (some (.builtin "object.__class__"))) && ((PySem.W.specialIn K (.builtin "object.__class__") "__get__" == some (some (.builtin "getset_descriptor.__get__"))) && ((PySem.W.takesIn K (.builtin "object.__class__") == some true) && (PySem.W.mroIn K D (.type "object") == some true)))))))
theorem exkB_ok {K : PySem.W.Frag} {D : Addr} (h : exkB K D = true) : ExK K D := by
  unfold exkB at h
  simp only [Bool.and_eq_true, beq_iff_eq] at h
  obtain ⟨h1, h2, h3, h4, h5, h6, h7, h8⟩ := h
  exact ⟨h1, h2, h3, h4, h5, h6, h7, h8⟩
theorem ExK.xf {K : PySem.W.Frag} {D : Addr} (h : ExK K D) : XfC K D := ⟨h.hg, h.hk, h.hs, h.hd⟩
/-- what is known of a kept exception at a: its class D, its dict's state -/
def KeptAt (H : Hp) (a D : Addr) : Prop := ∃ d : Option Addr, H a = some (ExV (.ref D) d a) ∧ (d = none ∨ ∃ dd fs, d = some dd ∧ H dd = some (.xd fs))
def rIsX (K : PySem.W.Frag) : List V → Hp → VK → Prop := fun xs H Q => ∃ (a D : Addr) (c : V) (cv : Value) (b : Bool), xs = [.ref a, c] ∧ KeptAt H a D ∧ ExK K D ∧ ClsV c cv ∧ PySem.W.kitOne K (.ref D) cv = some b ∧ Q (.bl b) H
def rIsXT (K : PySem.W.Frag) : List V → Hp → VK → Prop := fun xs H Q => ∃ (a D tp : Addr) (cs : List V) (us : List Value) (b : Bool), xs = [.ref a, .ref tp] ∧ KeptAt H a D ∧ ExK K D ∧ H tp = some (.tup cs) ∧ Paired ClsV cs us ∧ PySem.W.kitAny K (.ref D) us = some b ∧ Q (.bl b) H
section
variable {X : Cx} {pins : List (Addr × Obj)} {σ : L2.St} {H : Hp} {s : Shared}
theorem kept_inst {a D : Addr} (I : Inv X pins σ H s) (k : KeptAt H a D) : ∃ ox od, PySem.W.InstAt s.heap a ox D od := by
  obtain ⟨d, e, dd⟩ := k
  obtain ⟨oe, vs, g, z, hd⟩ := exV_at I.hok e
  obtain ⟨oc, od, oda, osl⟩ := oe
  obtain ⟨h1, h2⟩ := z
  dsimp only at h1 h2 hd
  subst h1 h2 hd
  rcases dd with rfl | ⟨dx, fs, rfl, hx⟩
  · exact ⟨_, none, g, rfl, rfl, trivial⟩
  · obtain ⟨mA, ⟨o, es, ep, g2, _⟩, _⟩ := (show ObjOk X.prog X.w H s.heap dx (.xd fs) from I.hok dx _ hx)
    exact ⟨_, some o, g, rfl, rfl, g2⟩
theorem kit_exc {K : PySem.W.Frag} {a D : Addr} {ox : Obj} {od : Option Obj} (C : ExK K D) : PySem.W.KitX K (.ref a) (.ref D) (fun h => PySem.W.InstAt h a ox D od) := by
  have hcl : (PySem.W.clsIn K D).isSome = true := by
    obtain ⟨cd, hc, _⟩ := PySem.W.any_some C.hd
    rw [hc]; rfl
  exact PySem.W.kitx_exc hcl C.hg C.hk C.hs C.ha C.hn C.ht C.hm
theorem call_isX : CallR X (.builtin "isinstance") (rIsX X.K) := by
  intro pins s σ H xs us Q I r h
  obtain ⟨a, D, c, cv, b, rfl, k, C, kc, e, q⟩ := h
  obtain ⟨u1, u2, rfl, r1, r2⟩ := vals2 r
  have e2 := kc.eq r2
  subst e2
  cases (show u1 = Value.ref a from r1)
  obtain ⟨ox, od, J⟩ := kept_inst I k
  exact PySem.W.kia_one (kit_exc C) I.kIn J e (fun z => nomatch z) fun tk => ⟨.bl b, H, I.tok tk, rfl, q⟩
theorem call_isXT : CallR X (.builtin "isinstance") (rIsXT X.K) := by
  intro pins s σ H xs us Q I r h
  obtain ⟨a, D, tp, cs, ws, b, rfl, k, C, hT, kc, e, q⟩ := h
  obtain ⟨u1, u2, rfl, r1, r2⟩ := vals2 r
  cases (show u1 = Value.ref a from r1)
  cases (show u2 = Value.ref tp from r2)
  obtain ⟨ox, od, J⟩ := kept_inst I k
  obtain ⟨_, its, rv, o, h1, h2, n, h3⟩ := (show ObjOk X.prog X.w H s.heap tp (.tup cs) from I.hok tp _ hT)
  have e3 := ClsV.all kc rv
  subst e3
  obtain ⟨oc, od', dt, sl⟩ := o
  simp only at h2 h3
  subst h2 h3
  exact PySem.W.kia_tup (kit_exc C) I.kIn J h1 e (fun z => nomatch z) fun tk => ⟨.bl b, H, I.tok tk, rfl, q⟩
/-- isinstance of anything, one class or a tuple of them -/
def rIsA (K : PySem.W.Frag) : List V → Hp → VK → Prop := fun xs H Q => rIsi K xs H Q ∨ rIsiT K xs H Q ∨ rIsX K xs H Q ∨ rIsXT K xs H Q
theorem q_isA : CallR X (.builtin "isinstance") (rIsA X.K) := by
  intro pins s σ H xs us Q I r h
  rcases h with h | h | h | h
  · exact call_isi pins s σ H xs us Q I r h
  · exact call_isiT pins s σ H xs us Q I r h
  · exact call_isX pins s σ H xs us Q I r h
  · exact call_isXT pins s σ H xs us Q I r h
end

/-! ### a kept exception's field -/
def tXat (K : PySem.W.Frag) (n : Str) (te : TE) : TE := fun σ H Q => te σ H fun x H1 => ∃ (a C dd : Addr) (fs : List (Str × V)) (v : V), x = .ref a ∧ H1 a = some (ExV (.ref C) (some dd) a) ∧ XfC K C ∧ PySem.W.findIn K (.ref C) n = some none ∧ H1 dd = some (.xd fs) ∧ fs.lookup n = some v ∧ Q v H1
theorem pe_xat {X : Cx} {e : Expr} {te : TE} {pos : Pos} {n : Str} (he : PE X e te) (hb : attributeBase e n X.env (eval e X.env) = eval e X.env := by rfl) : PE X (.Attribute e n pos) (tXat X.K n te) := by
  constructor
  intro pins s σ H Q I h
  refine attr_of hb (thn (he.run pins s σ H _ I h) fun u s1 hh => ?_)
  obtain ⟨x, H1, I1, rx, a, C, dd, fs, v, rfl, ea, T, hno, ed, l, q⟩ := hh
  cases (show u = Value.ref a from rx)
  obtain ⟨oe, vs, g, z, hd⟩ := exV_at I1.hok ea
  obtain ⟨mA, hns, hr⟩ := (show ObjOk X.prog X.w H1 s1.heap dd (.xd fs) from I1.hok dd _ ed)
  obtain ⟨od, ho, hl⟩ := lookIn_ns hns
  obtain ⟨u, hu, ru⟩ := RelO.some_of (v := v) (o := mA n) (by rw [← l]; exact hr n)
  have J : PySem.W.InstAt s1.heap a oe C (some od) := ⟨g, z.1, by unfold PySem.W.notCls; rw [hd] <;> rfl, by rw [z.2]; exact ho⟩
  exact HandSPX.exc_get I1.kIn J T.ga T.gg T.exC (PySem.W.findObj_own T.hdC hno rfl (by rw [hl, hu])) (handed_of ru) ⟨v, H1, I1.tok _, ru, q⟩

/-! ### Base.__init__(self, ..) in an own exception's __init__, Base an own class without an __init__ -/
structure BaseI (K : PySem.W.Frag) (mg : Str → Option Value) (B : Addr) (x : Str) : Prop where
  gB : mg x = some (.ref B)
  rd : PySem.W.readsIn K B (.type "type") = true
  ga : PySem.W.specialIn K (.ref B) "__getattribute__" = some (some (.builtin "type.__getattribute__"))
  at_ : PySem.W.findCls K (.ref B) (.type "type") "__init__" = some (.val (.builtin "ValueError.__init__"))
theorem pe_binit {X : Cx} {x : Str} {B : Addr} {e : Expr} {es : List Expr} {ta : TA} {p1 p2 pos : Pos} {pl : Sem Bool} (T : BaseI X.K X.mg B x) (hg : Gl X x) (ha : PA X (e :: es) ta) (hdb : (x == ("__debug__" : Str)) = false := by decide)
    (hc : eval (.Call (.Attribute (.Name x p1) "__init__" p2) (e :: es) [] pos) X.env = (do
      let ov ← eval (.Name x p1) X.env
      standAt p2.atName
      let (f, first) ← holding [ov] (getMethod ov "__init__" pl)
      callWith pos f first (backTo pos (starEach (e :: es) X.env)) (backToKw pos (keywordEach [] X.env))) := by rfl)
    (he : starEach (e :: es) X.env = (false, eval e X.env) :: starEach es X.env := by rfl) (hpl : (backTo pos (starEach es X.env)).any (·.1) = false := by rfl) :
    PE X (.Call (.Attribute (.Name x p1) "__init__" p2) (e :: es) [] pos) (tVeI X.K ta) := by
  constructor
  intro pins s σ H Q I h
  refine PySem.W.methodCall_KW (ld_glob I hg T.gB ?_ hdb) hc
  refine PySem.W.method_cls I.kIn T.ga (PySem.W.cls_value I.kIn T.rd T.at_ (by decide +kernel) ?_)
  show wpAny _ _ (callWith pos (Value.builtin "ValueError.__init__") [] (backTo pos (starEach (e :: es) X.env)) []) _ _ _
  refine PyProof.Rows.callWith_method1 (thn (ha.run pos pins _ σ H _ (I.tok _) h) fun us s1 hh => ?_) he hpl
  obtain ⟨vs, H1, I1, r1, a, C, ws, rfl, hl, O, ea, q⟩ := hh
  cases r1 with
  | @cons _ u0 _ ur ra rr =>
    cases (show u0 = Value.ref a from ra)
    have len : ur.length ≤ sizeLine := by
      have := Paired.length rr
      rw [sizeLine_eq]
      omega
    exact oinit_ok O I1 ea len fun s' J => ⟨.non, H1, J, rfl, q⟩

/-! ### readings of raise, of an exception's own __init__ and of try, step by step -/
/-- raise C('..'), C without an __init__ -/
def tRaiseP (C : Addr) (E : XK) : TS := fun _ _ H => E (.ref C) none H
/-- raise C(e), C with an __init__ that keeps sp -/
def tRaiseO (C : Addr) (sp : Sp) (ta : TA) (E : XK) : TS := fun _ σ H => tMkO C sp [] ta σ H fun cls d H' => E cls d H'
/-- the promise of such an __init__(self, f): the field f is stored -/
def prInit (C : Addr) (f : Str) (v0 v1 : V) (H : Hp) (Q : VK) : Prop := ∃ a, v0 = .ref a ∧ H a = some (exo a C none) ∧ ∀ dx, H dx = none → dx ≠ a → Q .non (upd (upd H dx (exd dx [(f, v1)])) a (exo a C (some dx)))
def spInit (C : Addr) (f : Str) : Sp := fun vs H Q _ => ∃ v0 v1, vs = [v0, v1] ∧ prInit C f v0 v1 H Q
/-- try: .. except c as n: m = n (n in slot i, m in slot j) -/
def tTryK (K : PySem.W.Frag) (c : Value) (i j : Nat) (tb : WX → TS) : TS := fun D σ H => tb (wKept K c i (fun _ _ _ => tAsg (tVar i) (gName j)) (fun _ _ _ _ => False) D) D σ H
section
variable {K : PySem.W.Frag} {σ : L2.St} {H : Hp} {D : Ends} {E : XK} {C : Addr} {f : Str}
theorem k_raiseP (h : E (.ref C) none H) : tRaiseP C E D σ H := h
theorem heap_made {H : Hp} {a d : Addr} {o1 o2 o3 o4 : HO} (na : H a = none) (ne : d ≠ a) : upd (L2.del (upd (upd (upd H a o1) d o2) a o3) a) d o4 = upd H d o4 := by
  funext b
  by_cases h1 : b = d
  · rw [h1, upd_same, upd_same]
  · rw [upd_ne h1, upd_ne h1]
    by_cases h2 : b = a
    · rw [h2, L2.del_same, na]
    · rw [L2.del_ne h2, upd_ne h2, upd_ne h1, upd_ne h2]
theorem exo_ne_exd {a d C : Addr} {fs : List (Str × V)} : True := trivial
theorem k_raiseO {ta : TA} {v : V} (hta : ∀ (R : List V → Hp → Prop), R [v] H → ta σ H R) (h : ∀ d, H d = none → E (.ref C) (some d) (upd H d (.xd [(f, v)]))) : tRaiseO C (spInit C f) ta E D σ H := by
  refine hta _ ⟨(by show 1 ≤ 1000; decide), fun a na => ?_⟩
  refine ⟨.ref a, v, rfl, a, rfl, upd_same, fun dx ndx ne => ⟨rfl, dx, [(f, v)], upd_same, ?_, ?_, ?_⟩⟩
  · rw [upd_ne ne, upd_same]
  · rw [upd_ne ne] at ndx; exact ndx
  · rw [heap_made na ne]
    rw [upd_ne ne] at ndx
    exact h dx ndx
theorem k_try {i j : Nat} {tb : WX → TS} (h : tb (wKept K (.ref C) i (fun _ _ _ => tAsg (tVar i) (gName j)) (fun _ _ _ _ => False) D) D σ H) : tTryK K (.ref C) i j tb D σ H := h
theorem k_callS {sp : Sp} {W : WX} {tr : TA} {Q : VK} (h : tr σ H fun vs H1 => sp vs H1 Q (WE W σ)) : tCallS sp (WE W) tr σ H Q := h
/-- the exception is one of the clause's -/
theorem k_caught {c : Value} {i j : Nat} {cls : Value} {d : Option Addr} {nx : L2.St → Hp → Prop} {rt : VK} {bk ct : L2.St → Hp → Prop} (hi : i < σ.length) (hc : PySem.W.exmOne K cls c = some true)
    (h : ∀ a, H a = none → nx (((σ.set i (some (.ref a))).set j (some (.ref a))).set i none) (upd H a (ExV cls d a))) : wKept K c i (fun _ _ _ => tAsg (tVar i) (gName j)) (fun _ _ _ _ => False) ⟨nx, rt, bk, ct⟩ cls d σ H :=
  ⟨true, hc, fun _ a na => ⟨.ref a, by rw [List.getElem?_set_self hi], h a na⟩, fun z => Bool.noConfusion z⟩
theorem k_isXone {xs : List V} {Q : VK} {a D : Addr} {c : V} {cv : Value} {b : Bool} (k : KeptAt H a D) (e : ExK K D) (kc : ClsV c cv) (h1 : PySem.W.kitOne K (.ref D) cv = some b) (h : Q (.bl b) H) : rIsA K [.ref a, c] H Q := .inr (.inr (.inl ⟨a, D, c, cv, b, rfl, k, e, kc, h1, h⟩))
theorem k_isXtup {Q : VK} {a D tp : Addr} {cs : List V} {us : List Value} {b : Bool} (k : KeptAt H a D) (e : ExK K D) (hT : H tp = some (.tup cs)) (kc : Paired ClsV cs us) (h1 : PySem.W.kitAny K (.ref D) us = some b) (h : Q (.bl b) H) : rIsA K [.ref a, .ref tp] H Q := .inr (.inr (.inr ⟨a, D, tp, cs, us, b, rfl, k, e, hT, kc, h1, h⟩))
theorem k_isNone {Q : VK} {c : V} {cv : Value} {b : Bool} (kc : ClsV c cv) (h1 : PySem.W.kitOne K (.type "NoneType") cv = some b) (h : Q (.bl b) H) : rIsA K [.non, c] H Q := .inl ⟨_, _, _, _, b, rfl, kc, .base .non, h1, h⟩
theorem k_isOne {Q : VK} {xs : List V} (h : rIsi K xs H Q) : rIsA K xs H Q := .inl h
theorem k_xat {n : Str} {te : TE} {Q : VK} (h : te σ H fun x H1 => ∃ (a C dd : Addr) (fs : List (Str × V)) (v : V), x = .ref a ∧ H1 a = some (ExV (.ref C) (some dd) a) ∧ XfC K C ∧ PySem.W.findIn K (.ref C) n = some none ∧ H1 dd = some (.xd fs) ∧ fs.lookup n = some v ∧ Q v H1) : tXat K n te σ H Q := h
theorem exV_kept {a : Addr} {D : Addr} {d : Option Addr} {H : Hp} (h : H a = some (ExV (.ref D) d a)) (hd : d = none ∨ ∃ dd fs, d = some dd ∧ H dd = some (.xd fs)) : KeptAt H a D := ⟨d, h, hd⟩
end
section
variable {K : PySem.W.Frag} {σ : L2.St} {H : Hp} {D : Ends} {E : XK} {C : Addr} {f : Str} {Q : VK} {te : TE} {tr : TA}
instance {i j : Nat} {tb : WX → TS} : Stp (tTryK K (.ref C) i j tb D σ H) (tb (wKept K (.ref C) i (fun _ _ _ => tAsg (tVar i) (gName j)) (fun _ _ _ _ => False) D) D σ H) := ⟨k_try⟩
instance {sp : Sp} {W : WX} : Stp (tCallS sp (WE W) tr σ H Q) (tr σ H fun vs H1 => sp vs H1 Q (WE W σ)) := ⟨k_callS⟩
instance {n : Str} : Stp (tXat K n te σ H Q) (te σ H fun x H1 => ∃ (a C dd : Addr) (fs : List (Str × V)) (v : V), x = .ref a ∧ H1 a = some (ExV (.ref C) (some dd) a) ∧ XfC K C ∧ PySem.W.findIn K (.ref C) n = some none ∧ H1 dd = some (.xd fs) ∧ fs.lookup n = some v ∧ Q v H1) := ⟨k_xat⟩
instance : Stp (tRaiseP C E D σ H) (E (.ref C) none H) := ⟨k_raiseP⟩
/-- what follows a caught exception is shown once -/
theorem tryjoin {i j : Nat} {tb : WX → TS} (G : Value → Option Addr → L2.St → Hp → Prop) (rest : ∀ cls d σ' H', G cls d σ' H' → wKept K (.ref C) i (fun _ _ _ => tAsg (tVar i) (gName j)) (fun _ _ _ _ => False) D cls d σ' H')
    (h : (∀ cls d σ' H', G cls d σ' H' → wKept K (.ref C) i (fun _ _ _ => tAsg (tVar i) (gName j)) (fun _ _ _ _ => False) D cls d σ' H') → tTryK K (.ref C) i j tb D σ H) : tTryK K (.ref C) i j tb D σ H := h rest
end
section
variable {P : Program} {w : World} {K : PySem.W.Frag} {mg : Str → Option Value} {base : Heap}
/-- such an __init__ keeps its promise; msg, f: its texts -/
theorem init_reads {C B : Addr} {f : Str} {msg : V} {v0 v1 : V} {H : Hp} {Q : VK} (O : OexC K C) (hno : PySem.W.findIn K (.ref C) f = some none) (h : prInit C f v0 v1 H Q) :
    tSeq (tDrop (tVeI K (tCons (tVar 0) (tCons (tC msg) tNil)))) (tOst K f (tVar 0) (tVar 1)) { nx := fun _ H' => Q .non H', rt := Q } [some v0, some v1] H := by
  obtain ⟨a, rfl, ea, q⟩ := h
  refine ⟨_, rfl, a, C, [msg], rfl, (by show 1 ≤ 1000; decide), O, ea, ?_⟩
  exact ⟨_, rfl, _, rfl, a, C, rfl, O, hno, .inl ⟨ea, fun dx nd ne => q dx nd ne⟩⟩
end
end Cm

namespace Cm
open PySem PySem.Spec PyProof.Rows L2

/-! ### how many unlike ints -/
def unl (ns : List Int) : Nat := (PyProof.Rows.firstMet (fun i => ns.getD i 0) ns.length).length
theorem unl_le (ns : List Int) : unl ns ≤ ns.length := PyProof.Rows.firstMet_length_le _ _
def tLenU (K : PySem.W.Frag) (ta : TE) : TE := fun σ H Q => ta σ H fun x H1 => ∃ (l : Addr) (ns : List Int), x = .ref l ∧ SqL K H1 l (ns.map V.int) ∧ ns.length ≤ 4000 ∧ Q (.int (unl ns : Nat)) H1
theorem pe_lenU {X : Cx} {a : Expr} {ta : TE} {p p2 q pos : Pos} (cm : X.calm = true) (gl : Gl X "len") (ml : X.mg "len" = none) (gs : Gl X "set") (ms : X.mg "set" = none) (pa : PE X a ta)
    (se : starEach [a] X.env = (false, eval a X.env) :: starEach [] X.env := by rfl) : PE X (.Call (.Name "len" p) [.Call (.Name "set" p2) [a] [] q] [] pos) (tLenU X.K ta) := by
  constructor
  intro pins s σ H Q I h
  refine Call_ (ld_blt I gl ml boot_len (PyProof.Rows.callWith_builtin1 (PyProof.Rows.args_cons ?_ rfl) rfl rfl))
  refine Call_ (ld_blt I gs ms boot_set (PyProof.Rows.callWith_type1 (PyProof.Rows.args_cons (thn (pa.run pins s σ H _ I h) fun v s1 ⟨x, H1, J, rx, qx⟩ => PyProof.Rows.args_nil ?_) se) se rfl))
  obtain ⟨l, ns, rfl, hq, hl, qx⟩ := qx
  cases rx
  obtain ⟨its, rv, pl, hz⟩ := J.list hq
  have sz1 : its.toArray.size = ns.length := by rw [List.size_toArray, ← rv.length, List.length_map]
  refine call_set_list (J.ok.hd cm) pl.isList (by simpa using RZ.intsAre_vals rv) (by rw [sz1]; unfold scanBound; omega) fun h' tk hS hk => PyProof.Rows.args_nil ?_
  rw [sz1] at hS
  obtain ⟨o, es, ep, t, ho, hex, hd, _, _, _, hf, hn⟩ := hS
  have J2 : Inv X pins σ H1 { s1 with heap := h', toks := tk } := J.kept fun b o e => hk b o (Heap.lt_size e) e
  have hu := unl_le ns
  exact call_len_set ho hex hd hf (by rw [hn]; unfold unl at hu; omega) ⟨.int (unl ns : Nat), H1, J2.tok _, ⟨_, by rw [hn]; rfl⟩, qx⟩

section
variable {K : PySem.W.Frag} {σ : L2.St} {H1 : Hp} {g : TG} {tt : TT} {te : TE} {vs : List Nat}
/-- over a tuple, new objects may be made -/
theorem lc_growT {QD : Addr → Hp → Prop} {α : Type} {a : Addr} {xs : List V} (hs : SqT K H1 a xs) (ps : List α) (hl : xs.length = ps.length) (hz : ps.length ≤ 50000) (f : α → Option V)
    (step : ∀ (i : Nat) x p H', xs[i]? = some x → ps[i]? = some p → Same H1 H' → ∀ (R : V → Hp → Prop) (R0 : Hp → Prop), (∀ y H'', f p = some y → Same H' H'' → R y H'') → (∀ H'', f p = none → Same H' H'' → R0 H'') →
      g x (wipe σ vs) H' fun σ2 H2 => wipe σ2 vs = wipe σ vs ∧ tt σ2 H2 fun b H3 => if b = true then te σ2 H3 R else R0 H3)
    (h : ∀ D H', H1 D = none → Same H1 H' → H' D = some (.lst (ps.filterMap f)) → QD D H') :
    ∃ a', V.ref a = .ref a' ∧ (∃ xs, SqT K H1 a' xs) ∧ ∀ D, H1 D = none → ∃ W : Nat → Nat → Hp → Prop, (∃ m, W 0 m (upd H1 D (.lst []))) ∧ ∀ i m H, W i m H →
      ((Itt K a').stop i H ∧ QD D H) ∨ ((Itt K a').go i H ∧ ∃ Nx : Hp → Prop, (∀ H', Nx H' → ∃ m', m' < m ∧ W (i + 1) m' H') ∧ ∀ x H', (Itt K a').yld i H x H' → g x (wipe σ vs) H' fun σ2 H2 => wipe σ2 vs = wipe σ vs ∧ tt σ2 H2 fun b H3 =>
        if b = true then te σ2 H3 fun y H4 => ∃ acc, H4 D = some (.lst acc) ∧ acc.length < sizeLine ∧ Nx (upd H4 D (.lst (acc ++ [y]))) else Nx H3) := by
  refine ⟨a, rfl, ⟨xs, hs⟩, fun D nD => lc_tup (xs := xs) (fun i H => Same H1 H ∧ H D = some (.lst ((ps.take i).filterMap f))) ⟨same_new nD, by rw [upd_same]; simp⟩ (fun i H _ e => same_seqT e.1 hs) ?_ ?_⟩
  · rintro i x H hx ⟨sm, hD⟩
    have hi : i < xs.length := (List.getElem?_eq_some_iff.mp hx).1
    obtain ⟨p, hp⟩ : ∃ p, ps[i]? = some p := ⟨ps[i]'(by omega), List.getElem?_eq_getElem (by omega)⟩
    have tk := take_filterMap (f := f) hp
    refine step i x p H hx hp sm _ _ (fun y H'' hy s2 => ⟨_, s2 _ _ hD, szl ?_, same_mut (sm.trans s2) nD, ?_⟩) (fun H'' hn s2 => ⟨sm.trans s2, ?_⟩)
    · have := List.length_filterMap_le f (ps.take i)
      rw [List.length_take] at this
      omega
    · rw [upd_same, tk, hy]; rfl
    · rw [tk, hn, s2 _ _ hD]; simp
  · rintro H ⟨sm, hD⟩
    rw [hl, List.take_length] at hD
    exact h D H nD sm hD
end
theorem k_ixN {K : PySem.W.Frag} {H : Hp} {Q : VK} {p : Addr} {ns : List Int} {i : Nat} {x : Int} (hs : SqL K H p (ns.map V.int)) (hx : ns[i]? = some x) (h : Q (.int x) H) : rIxL K (.ref p) (.int i) H Q := k_ixL hs (atI_nat (by rw [List.getElem?_map, hx]; rfl)) h
theorem fm_map {α : Type} (f : α → V) (l : List α) : l.filterMap (fun x => some (f x)) = l.map f := by
  rw [show (fun x => some (f x)) = some ∘ f from rfl, List.filterMap_eq_map]

/-- what follows a statement is shown once, and lies out of sight meanwhile -/
theorem seqO {s1 s2 : TS} {σ : L2.St} {H : Hp} {nx bk ct : L2.St → Hp → Prop} {rt : VK} (G : L2.St → Hp → Prop) (main : ∀ σ H, G σ H → s2 ⟨nx, rt, bk, ct⟩ σ H) (h : ∀ nx' : L2.St → Hp → Prop, (∀ σ H, G σ H → nx' σ H) → s1 ⟨nx', rt, bk, ct⟩ σ H) : tSeq s1 s2 ⟨nx, rt, bk, ct⟩ σ H := h _ main
/-- the last statement of a block -/
theorem lastO {s1 : TS} {σ : L2.St} {H : Hp} {nx bk ct : L2.St → Hp → Prop} {rt : VK} (G : L2.St → Hp → Prop) (main : ∀ σ H, G σ H → nx σ H) (h : ∀ nx' : L2.St → Hp → Prop, (∀ σ H, G σ H → nx' σ H) → s1 ⟨nx', rt, bk, ct⟩ σ H) : s1 ⟨nx, rt, bk, ct⟩ σ H := h _ main

/-! ### texts -/
def rStrInt : List V → Hp → VK → Prop := fun xs H Q => ∃ i : Int, xs = [.int i] ∧ i.natAbs.log2 < 1920 ∧ Q (.str (toString i)) H
theorem q_strI {X : Cx} : CallR X (.type "str") rStrInt := call_str_int
def xAddS : R2 := fun x y H Q => ∃ i j, x = .str i ∧ y = .str j ∧ i.length + j.length ≤ sizeLine ∧ Q (.str (i ++ j)) H
def rJoin (K : PySem.W.Frag) : V → List V → Hp → VK → Prop := fun x xs H Q => ∃ a p, ∃ ys : List Str, x = .str a ∧ xs = [.ref p] ∧ (SqL K H p (ys.map V.str) ∨ SqT K H p (ys.map V.str)) ∧ (ys.map (·.length)).sum + ys.length * a.length ≤ 16777216 ∧ Q (.str (Txt.join a ys)) H
/-- the signs of a text -/
abbrev sg (s : Str) : List Nat := TL.tl s
def mkS (l : List Nat) : Str := ⟨l.toArray⟩
theorem sg_mkS (l : List Nat) : sg (mkS l) = l := rfl
theorem mkS_sg (s : Str) : mkS (sg s) = s := TL.ext_tl rfl
theorem mkS_inj {l m : List Nat} : mkS l = mkS m ↔ l = m := ⟨fun h => by have := congrArg sg h; rwa [sg_mkS, sg_mkS] at this, fun h => by rw [h]⟩
/-- the signs of a whole number -/
def nu (i : Int) : List Nat := sg (Str.ofString (toString i))
section
variable {K : PySem.W.Frag} {σ : L2.St} {H : Hp} {Q : VK} {to te : TE}
instance {r : V → List V → Hp → VK → Prop} : Stp (tM1 r to te σ H Q) (to σ H fun x H1 => (∃ a, x = .str a) ∧ te σ H1 fun y H2 => r x [y] H2 Q) := ⟨fun h => h⟩
instance {r : V → List V → Hp → VK → Prop} : Stp (tM0 r to σ H Q) (to σ H fun x H1 => (∃ a, x = .str a) ∧ r x [] H1 Q) := ⟨fun h => h⟩
instance {s : Str} {R : Prop} : Stp ((∃ a, V.str s = .str a) ∧ R) R := ⟨fun h => ⟨⟨s, rfl⟩, h⟩⟩
instance : Stp (tLenU K te σ H Q) (te σ H fun x H1 => ∃ (l : Addr) (ns : List Int), x = .ref l ∧ SqL K H1 l (ns.map V.int) ∧ ns.length ≤ 4000 ∧ Q (.int (unl ns : Nat)) H1) := ⟨fun h => h⟩
theorem k_lenU {l : Addr} {ns : List Int} (hs : SqL K H l (ns.map V.int)) (hl : ns.length ≤ 4000) (h : Q (.int (unl ns : Nat)) H) : ∃ (l' : Addr) (ns : List Int), V.ref l = .ref l' ∧ SqL K H l' (ns.map V.int) ∧ ns.length ≤ 4000 ∧ Q (.int (unl ns : Nat)) H := ⟨l, ns, rfl, hs, hl, h⟩
/-- a number of at most thirty figures -/
def Num30 (i : Int) : Prop := 0 ≤ i ∧ i < 10 ^ 30
theorem log_lt {n : Nat} (h : n < 2 ^ 1900) : n.log2 < 1920 := by
  by_cases c : n = 0
  · subst c; decide
  · have := (Nat.log2_lt c (k := 1900)).mpr h
    omega
theorem k_strI {i : Int} (h0 : i.natAbs < 2 ^ 1900) (h : Q (.str (mkS (nu i))) H) : rStrInt [.int i] H Q := ⟨i, rfl, log_lt h0, by unfold nu at h; rw [mkS_sg] at h; exact h⟩
theorem len_sg (s : Str) : s.length = (sg s).length := TL.len_tl s
theorem k_addS {s t : Str} (hz : (sg s).length + (sg t).length ≤ 100000) (h : Q (.str (mkS (sg s ++ sg t))) H) : xAddS (.str s) (.str t) H Q := ⟨s, t, rfl, rfl, by rw [len_sg, len_sg]; exact sz hz, by
  have e : s ++ t = mkS (sg s ++ sg t) := TL.ext_tl (TL.tl_append s t)
  rw [e]; exact h⟩
theorem k_join {s : Str} {p : Addr} {ys : List Str} (hp : SqL K H p (ys.map V.str)) (hz : (ys.map (·.length)).sum + ys.length * s.length ≤ 16777216) (h : Q (.str (mkS (TL.joinL (sg s) (ys.map sg)))) H) : rJoin K (.str s) [.ref p] H Q :=
  ⟨s, p, ys, rfl, rfl, .inl hp, hz, by
    have e : Txt.join s ys = mkS (TL.joinL (sg s) (ys.map sg)) := TL.ext_tl (by rw [TL.join_eq]; exact TL.tl_join s ys)
    rw [e]; exact h⟩
theorem k_isiS {s : Str} (h : Q (.bl true) H) : rIsi K [.str s, .ty "str"] H Q := k_isi (.base (.str s)) (by decide +kernel) h
end
/-! ### more of texts -/
def g_tokS (mg : Str → Option Value) (x : Str) : Tok := match mg x with
  | some (.str _ t) => t
  | _ => default
theorem tok_mkS {mg : Str → Option Value} {x n : Str} {t : Tok} (h : mg x = some (.str n t)) : mg x = some (.str n (g_tokS mg x)) := by
  unfold g_tokS
  rw [h]
theorem q_isiT {X : Cx} : CallR X (.builtin "isinstance") (rIsiT X.K) := call_isiT
def rLenStr : List V → Hp → VK → Prop := fun xs H Q => ∃ z : Str, xs = [.str z] ∧ z.length ≤ sizeLine ∧ Q (.int z.length) H
theorem q_lenS {X : Cx} : CallR X (.builtin "len") rLenStr := call_len_str
def xInS : R2 := fun x y H Q => ∃ i j, x = .str i ∧ y = .str j ∧ Q (.bl (!(Builtin.Str.occurrences j i 0 j.length 1).isEmpty)) H
def xNotInS : R2 := fun x y H Q => ∃ i j, x = .str i ∧ y = .str j ∧ Q (.bl (!(!(Builtin.Str.occurrences j i 0 j.length 1).isEmpty))) H
def rFind : V → List V → Hp → VK → Prop := fun x xs H Q => ∃ a b, x = .str a ∧ xs = [.str b] ∧ Q (.int (Txt.find a b)) H
def rSplit : V → List V → Hp → VK → Prop := fun x xs H Q => ∃ a b, x = .str a ∧ xs = [.str b] ∧ (b.length == 0) = false ∧ a.length + 2 ≤ sizeLine ∧ rNewStrs (Txt.split a b) H Q
section
variable {K : PySem.W.Frag} {σ : L2.St} {H : Hp} {Q : VK} {te : TE}
instance {R : It → Hp → Prop} : Stp (iStr te σ H R) (te σ H fun v H1 => ∃ x, v = .str x ∧ R (Its x) H1) := ⟨fun h => h⟩
theorem k_lenS {l : List Nat} (hl : l.length ≤ 100000) (h : Q (.int (l.length : Nat)) H) : rLenStr [.str (mkS l)] H Q := ⟨_, rfl, by rw [len_sg, sg_mkS]; exact sz hl, by rw [len_sg, sg_mkS]; exact h⟩
theorem k_notInS {l : List Nat} {c : Nat} (h : Q (.bl (!decide (c ∈ l))) H) : xNotInS (.str ⟨#[c]⟩) (.str (mkS l)) H Q := ⟨_, _, rfl, rfl, by
  rw [StrLaws.found_one]; exact h⟩
theorem k_inS {l : List Nat} {c : Nat} (h : Q (.bl (decide (c ∈ l))) H) : xInS (.str ⟨#[c]⟩) (.str (mkS l)) H Q := ⟨_, _, rfl, rfl, by
  rw [StrLaws.found_one]; exact h⟩
theorem k_split {l : List Nat} {s : Str} {ps : List (List Nat)} (hl : l.length ≤ 99000) (hs : s.length ≠ 0) (hp : Txt.split (mkS l) s = ps.map mkS) (h : ∀ p H', H p = none → Same H H' → H' p = some (.lst (ps.map fun q => V.str (mkS q))) → Q (.ref p) H') : rSplit (.str (mkS l)) [.str s] H Q :=
  ⟨_, _, rfl, rfl, by simpa using hs, by rw [len_sg, sg_mkS]; exact sz (by omega), fun p np => h p _ np (same_new np) (by rw [upd_same, hp, List.map_map]; rfl)⟩
theorem k_ixS {l : List Nat} {i : Nat} {c : Nat} (hl : l.length ≤ 100000) (hc : l[i]? = some c) (h : Q (.str ⟨#[c]⟩) H) : rIxS (.str (mkS l)) (.int i) H Q := ⟨_, _, c, rfl, rfl, by rw [len_sg, sg_mkS]; exact sz hl, atI_nat hc, h⟩
end
theorem split_one {s : Nat} {ps : List (List Nat)} (hs : s < 256) (hne : ps ≠ []) (hp : ∀ p ∈ ps, s ∉ p) : Txt.split (mkS (TL.joinL [s] ps)) ⟨#[s]⟩ = ps.map mkS := by
  have e : mkS (TL.joinL [s] ps) = Txt.join ⟨#[s]⟩ (ps.map mkS) := TL.ext_tl (by
    rw [TL.join_eq, TL.tl_join, List.map_map]
    show TL.joinL [s] ps = TL.joinL [s] (ps.map (TL.tl ∘ mkS))
    rw [show (TL.tl ∘ mkS) = id from rfl, List.map_id])
  rw [e]
  refine TL.split_join (s := s) (S := []) rfl (by simp [hs]) (by simpa using hne) fun p h => ?_
  obtain ⟨q, hq, rfl⟩ := List.mem_map.mp h
  exact hp q hq
/-- rows, each with its end, and what stands behind the last end -/
theorem rows_join (rs : List (List Nat)) (e : Nat) (z : List Nat) : (rs.map fun r => r ++ [e]).flatten ++ z = TL.joinL [e] (rs ++ [z]) := by
  induction rs with
  | nil => rfl
  | cons r t ih =>
    have : TL.joinL [e] (r :: (t ++ [z])) = r ++ ([e] ++ TL.joinL [e] (t ++ [z])) := by
      cases t <;> rfl
    rw [List.cons_append, this, ← ih]
    simp
theorem sg_str (s : String) : sg (Str.ofString s) = s.toList.map Char.toNat := TL.tl_ofString s
theorem nu_nat (n : Nat) : nu (n : Int) = TL.numL n := TL.tl_num n
theorem nu_len {i : Int} (h : 0 ≤ i) {k : Nat} (k0 : 0 < k) (h1 : i < 10 ^ k) : (nu i).length ≤ k := by
  obtain ⟨n, rfl⟩ := Int.eq_ofNat_of_zero_le h
  rw [nu_nat]
  unfold TL.numL
  rw [List.length_map]
  refine (Nat.length_toDigits_le_iff (by decide) k0).mpr ?_
  have : ((n : Nat) : Int) < ((10 ^ k : Nat) : Int) := by rw [Int.natCast_pow]; exact h1
  exact Int.ofNat_lt.mp this
/-- signs behind one another -/
theorem joinL_nil (ps : List (List Nat)) : TL.joinL [] ps = ps.flatten := by
  induction ps with
  | nil => rfl
  | cons p r ih => cases r with
    | nil => simp [TL.joinL]
    | cons q r => show p ++ ([] ++ TL.joinL [] (q :: r)) = _; rw [ih]; simp
theorem joinL_cons (S p : List Nat) (r : List (List Nat)) : TL.joinL S (p :: r) = p ++ (r.map fun q => S ++ q).flatten := by
  induction r generalizing p with
  | nil => simp [TL.joinL]
  | cons q r ih => show p ++ (S ++ TL.joinL S (q :: r)) = _; rw [ih]; simp
theorem sum_le {l : List Nat} {b : Nat} (h : ∀ x ∈ l, x ≤ b) : l.sum ≤ l.length * b := by
  induction l with
  | nil => simp
  | cons x r ih =>
    have h1 := ih fun y hy => h y (List.mem_cons_of_mem _ hy)
    have h2 := h x List.mem_cons_self
    rw [List.sum_cons, List.length_cons, Nat.add_mul]
    omega
theorem flat_le {l : List (List Nat)} {b : Nat} (h : ∀ x ∈ l, x.length ≤ b) : l.flatten.length ≤ l.length * b := by
  rw [List.length_flatten]
  have := sum_le (l := l.map List.length) (b := b) fun x hx => by
    obtain ⟨y, hy, rfl⟩ := List.mem_map.mp hx
    exact h y hy
  rw [List.length_map] at this
  exact this
end Cm

namespace Pf
open PySem PySem.Spec PyProof.Rows L2 Cm
local macro_rules | `(tactic| wtm_at "smh") => `(tactic| with_reducible first
  | assumption
  | (refine Same.trans ?_ (by assumption); wtm_at "smx")
  | (refine Same.trans ?_ (hid_mono (by assumption)); wtm_at "smx"))
local macro_rules | `(tactic| wtm_at "smx") => `(tactic| with_reducible first
  | exact Same.refl _
  | assumption
  | exact hid_same _ _
  | (refine Same.trans ?_ (by assumption); wtm_at "smx")
  | (refine Same.trans ?_ (hid_mono (by assumption)); wtm_at "smx")
  | (apply hid_back; wtm_at "smh"))
local macro_rules | `(tactic| wtm_at "sm") => `(tactic| wtm_at "smx")
local macro_rules | `(tactic| wtm_at "at") => `(tactic| with_reducible first
  | assumption
  | exact upd_same
  | (refine at_same (by assumption) ?_; wtm_at "smx"))
local macro_rules | `(tactic| wtm_at "le") => `(tactic| with_reducible first
  | assumption
  | (refine Le.same (by assumption) ?_; wtm_at "smx"))
local macro_rules | `(tactic| wtm_at "dp") => `(tactic| with_reducible first
  | assumption
  | exact .int _
  | exact .str _
  | exact .bl _
  | (refine dp_same ?_ (by assumption); wtm_at "smx")
  | (refine dpa_same ?_ (by assumption); wtm_at "smx")
  | (refine dpI_at (by assumption) ?_; wtm_at "smx")
  | (refine dpP_at (by assumption) ?_; wtm_at "smx"))
local macro_rules | `(tactic| wtm_at "sq") => `(tactic| with_reducible first
  | assumption
  | exact sl (by assumption)
  | exact stp (by assumption)
  | (refine sl_at (by assumption) ?_; wtm_at "smx")
  | (refine st_at (by assumption) ?_; wtm_at "smx")
  | (refine Same.seq ?_ (by assumption); wtm_at "smx")
  | (refine same_seqT ?_ (by assumption); wtm_at "smx")
  | ((show SqL _ (upd _ _ _) _ _); exact sl upd_same)
  | ((show SqT _ (upd _ _ _) _ _); exact stp upd_same))
local macro_rules | `(tactic| wtm_at "cI") => `(tactic| first
  | (refine Or.inl ⟨?_, ?_⟩ <;> omega)
  | (refine Or.inr ⟨?_, ?_⟩ <;> omega)
  | (refine ⟨?_, ?_⟩ <;> omega)
  | decide)
local macro_rules | `(tactic| wtm_at "pf") => `(tactic| first | omega | decide)
local macro_rules | `(tactic| wtm_at "s2") => `(tactic| with_reducible first
  | ((show ite _ _ _); first
    | refine k_itDT (by with_unfolding_all wtm_at "pf") ?_
    | refine k_itDF (by with_unfolding_all wtm_at "pf") ?_
    | refine k_itNT (by with_unfolding_all wtm_at "pf") ?_
    | refine k_itNF (by with_unfolding_all wtm_at "pf") ?_)
  | ((show rLen _ _ _ _); first
    | refine k_len0 (by assumption) ?_
    | refine k_lenI (by wtm_at "sq") ?_
    | refine k_len (by wtm_at "sq") ?_)
  | ((show gTup _ _ _ _ _ _ _); refine k_gtup (by wtm_at "sq") (by with_unfolding_all rfl) ?_)
  | ((show rIxT _ (V.ref _) (V.int _) _ _); refine k_ixT (by wtm_at "sq") (by with_unfolding_all rfl) ?_)
  | ((show wipe _ _ = wipe _ _ ∧ _); refine k_wipe (by with_unfolding_all rfl) ?_)
  | ((show rIn _ _ _ _ _ _); first
    | refine k_inI (by wtm_at "sq") ?_
    | refine k_notInI (by wtm_at "sq") ?_)
  | ((show rIsi _ _ _ _); refine k_isiL (by wtm_at "sq") ?_)
  | ((show xMod _ _ _ _); refine k_mod (by with_unfolding_all first | decide | omega) ?_)
  | ((show xMul _ _ _ _); refine k_mul (by with_unfolding_all wtm_at "cI") ?_)
  | ((show xDiv _ _ _ _); refine k_div (by with_unfolding_all wtm_at "cI") ?_)
  | ((show xPow _ _ _ _); refine k_pow (by with_unfolding_all exact ⟨by decide, by decide, by decide⟩) ?_)
  | ((show rMinT _ _ _ _); refine k_minT (by wtm_at "sq") ?_)
  | ((show rMaxT _ _ _ _); refine k_maxT (by wtm_at "sq") ?_)
  | ((show ∃ j' : Int, [V.int _] = [.int j'] ∧ _); refine k_rj1 (by with_unfolding_all omega) (by with_unfolding_all omega) ?_)
  | ((show ∃ i' j' : Int, [V.int _, V.int _] = [.int i', .int j'] ∧ _); refine k_rj2 (by with_unfolding_all omega) ?_))
local macro_rules | `(tactic| wtm_at "s1") => `(tactic| first
  | refine go ?_
  | wtm_at "s2")
local macro_rules | `(tactic| wtm_at "s") => `(tactic| repeat wtm_at "s1")
def topS (i : Nat) : Stmt := PySem.Challenge.pw_tiehues_k20_whole_four_hues_forced.main.body.getD i (.Pass ⟨0, 0, 0, 0⟩)
abbrev s_ties_on : Stmt := topS 5
theorem sc_ties_on : FnScope ["net", "way", "a", "b", "found"] ["net", "way"] (defScope s_ties_on) := ⟨rfl, rfl, rfl, by decide +kernel, rfl, by decide +kernel, by decide +kernel⟩
abbrev s_first_clash : Stmt := topS 6
theorem sc_first_clash : FnScope ["lain", "hues", "i", "j", "tie"] ["lain", "hues"] (defScope s_first_clash) := ⟨rfl, rfl, rfl, by decide +kernel, rfl, by decide +kernel, by decide +kernel⟩
abbrev s_used : Stmt := topS 7
theorem sc_used : FnScope ["hues"] ["hues"] (defScope s_used) := ⟨rfl, rfl, rfl, by decide +kernel, rfl, by decide +kernel, by decide +kernel⟩
abbrev s_four_alike : Stmt := topS 10
theorem sc_four_alike : FnScope ["hues", "many", "alike", "k"] ["hues"] (defScope s_four_alike) := ⟨rfl, rfl, rfl, by decide +kernel, rfl, by decide +kernel, by decide +kernel⟩
abbrev s_way_for : Stmt := topS 11
theorem sc_way_for : FnScope ["hues", "told", "alike", "many", "a", "b", "c", "d"] ["hues"] (defScope s_way_for) := ⟨rfl, rfl, rfl, by decide +kernel, rfl, by decide +kernel, by decide +kernel⟩
abbrev s_next_way : Stmt := topS 12
theorem sc_next_way : FnScope ["ways", "hues", "k", "hue", "way"] ["ways", "hues"] (defScope s_next_way) := ⟨rfl, rfl, rfl, by decide +kernel, rfl, by decide +kernel, by decide +kernel⟩
abbrev s_law_mix : Stmt := topS 14
theorem sc_law_mix : FnScope ["_law_number", "_law_k", "_law_mixed"] ["_law_number", "_law_k"] (defScope s_law_mix) := ⟨rfl, rfl, rfl, by decide +kernel, rfl, by decide +kernel, by decide +kernel⟩
abbrev s_law_cell_at : Stmt := topS 15
theorem sc_law_cell_at : FnScope ["_law_script", "_law_k"] ["_law_script", "_law_k"] (defScope s_law_cell_at) := ⟨rfl, rfl, rfl, by decide +kernel, rfl, by decide +kernel, by decide +kernel⟩
abbrev s_law_left : Stmt := topS 16
theorem sc_law_left : FnScope ["_law_script", "_law_k", "_law_cell"] ["_law_script", "_law_k"] (defScope s_law_left) := ⟨rfl, rfl, rfl, by decide +kernel, rfl, by decide +kernel, by decide +kernel⟩
abbrev s_law_draw : Stmt := topS 17
theorem sc_law_draw : FnScope ["_law_left_here", "_law_base", "_law_mixed", "_law_digit"] ["_law_left_here", "_law_base"] (defScope s_law_draw) := ⟨rfl, rfl, rfl, by decide +kernel, rfl, by decide +kernel, by decide +kernel⟩
abbrev s_law_meet : Stmt := topS 18
theorem sc_law_meet : FnScope ["_law_one", "_law_other"] ["_law_one", "_law_other"] (defScope s_law_meet) := ⟨rfl, rfl, rfl, by decide +kernel, rfl, by decide +kernel, by decide +kernel⟩
abbrev s_law_hue : Stmt := topS 19
theorem sc_law_hue : FnScope ["_law_left_here", "_law_way", "_law_ways", "_law_hues", "_law_manner", "_law_taken", "_law_free", "_law_counts_of", "_law_k", "_law_hue_here"] ["_law_left_here", "_law_way", "_law_ways", "_law_hues", "_law_manner"] (defScope s_law_hue) := ⟨rfl, rfl, rfl, by decide +kernel, rfl, by decide +kernel, by decide +kernel⟩
abbrev s_law_is_way : Stmt := topS 20
theorem sc_law_is_way : FnScope ["_law_way", "_law_end"] ["_law_way"] (defScope s_law_is_way) := ⟨rfl, rfl, rfl, by decide +kernel, rfl, by decide +kernel, by decide +kernel⟩
abbrev s_law : Stmt := topS 21
theorem sc_law : FnScope ["_law_script", "_law_cell", "_law_left_here", "_law_manner", "_law_unit", "_law_ways", "_law_hues", "_law_turn", "_law_told", "_law_handed", "_law_way", "_law_hue_here", "_law_tie", "_law_one"] ["_law_script"] (defScope s_law) := ⟨rfl, rfl, rfl, by decide +kernel, rfl, by decide +kernel, by decide +kernel⟩
abbrev s_init_NoWay : Stmt := inClass (topS 2) 0
theorem sc_init_NoWay : FnScope ["self", "at"] ["self", "at"] (defScope s_init_NoWay) := ⟨rfl, rfl, rfl, by decide +kernel, rfl, by decide +kernel, by decide +kernel⟩
abbrev s_init_NoHues : Stmt := inClass (topS 3) 0
theorem sc_init_NoHues : FnScope ["self", "place"] ["self", "place"] (defScope s_init_NoHues) := ⟨rfl, rfl, rfl, by decide +kernel, rfl, by decide +kernel, by decide +kernel⟩
structure Ad where
  c_TieError : Addr
  c_NoWay : Addr
  c_NoHues : Addr
  i_NoWay : Addr
  di_NoWay : FuncData
  i_NoHues : Addr
  di_NoHues : FuncData
  g_LINE : Addr
  a_ties_on : Addr
  d_ties_on : FuncData
  a_first_clash : Addr
  d_first_clash : FuncData
  a_used : Addr
  d_used : FuncData
  a_four_alike : Addr
  d_four_alike : FuncData
  a_way_for : Addr
  d_way_for : FuncData
  a_next_way : Addr
  d_next_way : FuncData
  a_law_mix : Addr
  d_law_mix : FuncData
  a_law_cell_at : Addr
  d_law_cell_at : FuncData
  a_law_left : Addr
  d_law_left : FuncData
  a_law_draw : Addr
  d_law_draw : FuncData
  a_law_meet : Addr
  d_law_meet : FuncData
  a_law_hue : Addr
  d_law_hue : FuncData
  a_law_is_way : Addr
  d_law_is_way : FuncData
  a_law : Addr
  d_law : FuncData
structure Txt (K : PySem.W.Frag) (mg : Str → Option Value) (A : Ad) : Prop where
  g_ties_on : mg "ties_on" = some (.ref A.a_ties_on)
  F_ties_on : Fun K "ties_on" "ties_on" s_ties_on A.a_ties_on A.d_ties_on
  b_ties_on : Binds K A.d_ties_on ["net", "way"] []
  g_first_clash : mg "first_clash" = some (.ref A.a_first_clash)
  F_first_clash : Fun K "first_clash" "first_clash" s_first_clash A.a_first_clash A.d_first_clash
  b_first_clash : Binds K A.d_first_clash ["lain", "hues"] []
  g_used : mg "used" = some (.ref A.a_used)
  F_used : Fun K "used" "used" s_used A.a_used A.d_used
  b_used : Binds K A.d_used ["hues"] []
  g_four_alike : mg "four_alike" = some (.ref A.a_four_alike)
  F_four_alike : Fun K "four_alike" "four_alike" s_four_alike A.a_four_alike A.d_four_alike
  b_four_alike : Binds K A.d_four_alike ["hues"] []
  g_way_for : mg "way_for" = some (.ref A.a_way_for)
  F_way_for : Fun K "way_for" "way_for" s_way_for A.a_way_for A.d_way_for
  b_way_for : Binds K A.d_way_for ["hues"] []
  g_next_way : mg "next_way" = some (.ref A.a_next_way)
  F_next_way : Fun K "next_way" "next_way" s_next_way A.a_next_way A.d_next_way
  b_next_way : Binds K A.d_next_way ["ways", "hues"] []
  g_law_mix : mg "_law_mix" = some (.ref A.a_law_mix)
  F_law_mix : Fun K "_law_mix" "_law_mix" s_law_mix A.a_law_mix A.d_law_mix
  b_law_mix : Binds K A.d_law_mix ["_law_number", "_law_k"] []
  g_law_cell_at : mg "_law_cell_at" = some (.ref A.a_law_cell_at)
  F_law_cell_at : Fun K "_law_cell_at" "_law_cell_at" s_law_cell_at A.a_law_cell_at A.d_law_cell_at
  b_law_cell_at : Binds K A.d_law_cell_at ["_law_script", "_law_k"] []
  g_law_left : mg "_law_left" = some (.ref A.a_law_left)
  F_law_left : Fun K "_law_left" "_law_left" s_law_left A.a_law_left A.d_law_left
  b_law_left : Binds K A.d_law_left ["_law_script", "_law_k"] []
  g_law_draw : mg "_law_draw" = some (.ref A.a_law_draw)
  F_law_draw : Fun K "_law_draw" "_law_draw" s_law_draw A.a_law_draw A.d_law_draw
  b_law_draw : Binds K A.d_law_draw ["_law_left_here", "_law_base"] []
  g_law_meet : mg "_law_meet" = some (.ref A.a_law_meet)
  F_law_meet : Fun K "_law_meet" "_law_meet" s_law_meet A.a_law_meet A.d_law_meet
  b_law_meet : Binds K A.d_law_meet ["_law_one", "_law_other"] []
  g_law_hue : mg "_law_hue" = some (.ref A.a_law_hue)
  F_law_hue : Fun K "_law_hue" "_law_hue" s_law_hue A.a_law_hue A.d_law_hue
  b_law_hue : Binds K A.d_law_hue ["_law_left_here", "_law_way", "_law_ways", "_law_hues", "_law_manner"] []
  g_law_is_way : mg "_law_is_way" = some (.ref A.a_law_is_way)
  F_law_is_way : Fun K "_law_is_way" "_law_is_way" s_law_is_way A.a_law_is_way A.d_law_is_way
  b_law_is_way : Binds K A.d_law_is_way ["_law_way"] []
  g_law : mg "law" = some (.ref A.a_law)
  F_law : Fun K "law" "law" s_law A.a_law A.d_law
  b_law : Binds K A.d_law ["_law_script"] []
  c_LINE : mg "LINE" = some (.ref A.g_LINE)
  v_LINE : ∀ H : Hp, SqT K H A.g_LINE [.str (Str.ofString "line"), .int 41]
  z_bool : mg "bool" = none
  z_int : mg "int" = none
  z_isinstance : mg "isinstance" = none
  z_len : mg "len" = none
  z_list : mg "list" = none
  z_max : mg "max" = none
  z_min : mg "min" = none
  z_range : mg "range" = none
  z_set : mg "set" = none
  z_sorted : mg "sorted" = none
  z_tuple : mg "tuple" = none
  k_TieError : mg "TieError" = some (.ref A.c_TieError)
  x_TieError : ExK K A.c_TieError
  t_TieError : PySem.W.typeIn K (.ref A.c_TieError) = some (.type "type")
  k_NoWay : mg "NoWay" = some (.ref A.c_NoWay)
  x_NoWay : ExK K A.c_NoWay
  t_NoWay : PySem.W.typeIn K (.ref A.c_NoWay) = some (.type "type")
  k_NoHues : mg "NoHues" = some (.ref A.c_NoHues)
  x_NoHues : ExK K A.c_NoHues
  t_NoHues : PySem.W.typeIn K (.ref A.c_NoHues) = some (.type "type")
  o_NoWay : OexC K A.c_NoWay
  in_NoWay : PySem.W.findIn K (.ref A.c_NoWay) "__init__" = some (some (.ref A.i_NoWay))
  ti_NoWay : PySem.W.typeIn K (.ref A.i_NoWay) = some (.type "function")
  Fi_NoWay : Fun K "__init__" "NoWay.__init__" s_init_NoWay A.i_NoWay A.di_NoWay
  bi_NoWay : Binds K A.di_NoWay ["self", "at"] []
  nf_NoWay : PySem.W.findIn K (.ref A.c_NoWay) "at" = some none
  o_NoHues : OexC K A.c_NoHues
  in_NoHues : PySem.W.findIn K (.ref A.c_NoHues) "__init__" = some (some (.ref A.i_NoHues))
  ti_NoHues : PySem.W.typeIn K (.ref A.i_NoHues) = some (.type "function")
  Fi_NoHues : Fun K "__init__" "NoHues.__init__" s_init_NoHues A.i_NoHues A.di_NoHues
  bi_NoHues : Binds K A.di_NoHues ["self", "place"] []
  nf_NoHues : PySem.W.findIn K (.ref A.c_NoHues) "place" = some none
  base_ : BaseI K mg A.c_TieError "TieError"
  u_NoHues : PySem.W.subIn K (.ref A.c_NoHues) (.ref A.c_TieError) = some true
  u_NoWay : PySem.W.subIn K (.ref A.c_NoWay) (.ref A.c_TieError) = some true
/-! ### nets -/
inductive Net where
  | line (n : Int)
  | ring (n : Int)
  | tree (ps : List Int)
def Net.kind : Net → Str
  | .line _ => Str.ofString "line"
  | .ring _ => Str.ofString "ring"
  | .tree _ => Str.ofString "tree"
def Net.size : Net → PyData
  | .line n => .int n
  | .ring n => .int n
  | .tree ps => dInts ps
abbrev Net.d (N : Net) : PyData := .tuple [.str N.kind, N.size]
def TreeOk (ps : List Int) : Prop := 1 ≤ ps.length ∧ ps.length < 60 ∧ ∀ k : Nat, k < ps.length → 0 ≤ ps.getD k 0 ∧ ps.getD k 0 ≤ k
def Net.ok : Net → Prop
  | .line n => 2 ≤ n ∧ n ≤ 60
  | .ring n => 3 ≤ n ∧ n ≤ 60
  | .tree ps => TreeOk ps
def Net.places : Net → Int
  | .line n => n
  | .ring n => n
  | .tree ps => ps.length + 1
theorem net_str {s t : Str} (h : decide (V.str s = V.str t) = true) : s = t := V.str.inj (of_decide_eq_true h)
/-- a net's tuple -/
theorem dp_net {K : PySem.W.Frag} {H : Hp} {v : V} {N : Net} (h : Dp K H v N.d) : ∃ a y, v = .ref a ∧ SqT K H a [.str N.kind, y] ∧ Dp K H y N.size := by
  obtain ⟨a, x, y, rfl, hs, hx, hy⟩ := dp_tup2 h
  obtain rfl := dp_str hx
  exact ⟨a, y, rfl, hs, hy⟩
theorem k_eqS {s t : Str} {H : Hp} {Q : VK} (h : Q (.bl (decide (s = t))) H) : rEq (.str s) (.str t) H Q := ⟨rfl, by
  have e : decide (V.str s = V.str t) = decide (s = t) := by
    by_cases c : s = t
    · rw [decide_eq_true c, decide_eq_true (by rw [c])]
    · rw [decide_eq_false c, decide_eq_false (fun z => c (V.str.inj z))]
  rw [e]; exact h⟩
theorem k_neS {s t : Str} {H : Hp} {Q : VK} (h : Q (.bl (!decide (s = t))) H) : rNe (.str s) (.str t) H Q := ⟨rfl, by
  have e : decide (V.str s = V.str t) = decide (s = t) := by
    by_cases c : s = t
    · rw [decide_eq_true c, decide_eq_true (by rw [c])]
    · rw [decide_eq_false c, decide_eq_false (fun z => c (V.str.inj z))]
  rw [e]; exact h⟩
theorem s_lt : decide (Str.ofString "line" = Str.ofString "tree") = false := by decide +kernel
theorem s_rt : decide (Str.ofString "ring" = Str.ofString "tree") = false := by decide +kernel
theorem s_lr : decide (Str.ofString "line" = Str.ofString "ring") = false := by decide +kernel
theorem s_rl : decide (Str.ofString "ring" = Str.ofString "line") = false := by decide +kernel
theorem s_tl : decide (Str.ofString "tree" = Str.ofString "line") = false := by decide +kernel
theorem s_tr : decide (Str.ofString "tree" = Str.ofString "ring") = false := by decide +kernel
theorem s_same (s : Str) : decide (s = s) = true := decide_eq_true rfl
/-- how far t lies up from a on a ring of n -/
def up (n a t : Int) : Int := if a ≤ t then t - a else t - a + n
/-- x lies in the part of the tree that hangs by k -/
def below (ps : List Int) (k : Nat) : Nat → Bool
  | 0 => decide (k = 0)
  | x + 1 => decide (k = x + 1) || (decide (k < x + 1) && if h : (ps.getD x 0).toNat < x + 1 then below ps k (ps.getD x 0).toNat else false)
termination_by x => x
decreasing_by exact h
def OnTie : Net → Int → Int → Int → Prop
  | .line _, a, b, t => min a b ≤ t ∧ t < max a b
  | .ring n, a, b, t => 0 ≤ t ∧ t < n ∧ up n a t < up n a b
  | .tree ps, a, b, t => 0 ≤ t ∧ t < ps.length ∧ below ps (t.toNat + 1) a.toNat ≠ below ps (t.toNat + 1) b.toNat
def Net.far : Net → Int → Int → List Int → Prop
  | .line _, a, b, ns => (ns.length : Int) = max a b - min a b
  | .ring n, a, b, ns => (ns.length : Int) = up n a b
  | .tree _, _, _, ns => ns.length < 120
def isWay (N : Net) (a b : Int) : Prop := a ≠ b ∧ 0 ≤ a ∧ 0 ≤ b ∧ a < N.places ∧ b < N.places
instance (N : Net) (a b : Int) : Decidable (isWay N a b) := by unfold isWay; infer_instance
structure TiesOf (N : Net) (a b : Int) (ns : List Int) : Prop where
  srt : ns.Pairwise (· < ·)
  mem : ∀ t, t ∈ ns ↔ OnTie N a b t
  far : N.far a b ns

variable {P : Program} {w : World} {K : PySem.W.Frag} {mg : Str → Option Value} {base : Heap} {A : Ad}
theorem below_lt {ps : List Int} {k : Nat} : ∀ x, x < k → below ps k x = false
  | 0, h => by unfold below; exact decide_eq_false (by omega)
  | x + 1, h => by
    unfold below
    rw [decide_eq_false (show ¬ k = x + 1 by omega), decide_eq_false (show ¬ k < x + 1 by omega)]; rfl
theorem below_self {ps : List Int} (k : Nat) : below ps k k = true := by
  cases k with
  | zero => unfold below; rfl
  | succ x => unfold below; rw [decide_eq_true rfl]; rfl
theorem below_step {ps : List Int} (h : TreeOk ps) {k x : Nat} (hx : x < ps.length) (hk : k ≠ x + 1) : below ps k (x + 1) = below ps k (ps.getD x 0).toNat := by
  have hp := h.2.2 x hx
  have hlt : (ps.getD x 0).toNat < x + 1 := by omega
  rw [below, decide_eq_false hk, Bool.false_or, dif_pos hlt]
  by_cases c : k < x + 1
  · rw [decide_eq_true c, Bool.true_and]
  · rw [decide_eq_false c, Bool.false_and, below_lt _ (by omega)]
theorem ring_step {n a b t : Int} (a0 : 0 ≤ a) (a1 : a < n) (b0 : 0 ≤ b) (b1 : b < n) (ne : a ≠ b) (t0 : 0 ≤ t) (t1 : t < n) :
    (up n a t < up n a b ↔ t = a ∨ up n ((a + 1) % n) t < up n ((a + 1) % n) b) ∧ (t = a → ¬ up n ((a + 1) % n) t < up n ((a + 1) % n) b) := by
  have e : (a + 1) % n = if a + 1 = n then 0 else a + 1 := by
    split
    · rename_i h; rw [h]; exact Int.emod_self
    · exact Int.emod_eq_of_lt (by omega) (by omega)
  rw [e]
  unfold up
  constructor
  · constructor
    · intro h; repeat' split at h
      all_goals repeat' split
      all_goals omega
    · intro h; repeat' split at h
      all_goals repeat' split
      all_goals omega
  · intro h; subst h
    repeat' split
    all_goals omega
theorem ring_far {n a b : Int} (a0 : 0 ≤ a) (a1 : a < n) (b0 : 0 ≤ b) (b1 : b < n) (ne : a ≠ b) : up n ((a + 1) % n) b = up n a b - 1 ∧ 0 ≤ (a + 1) % n ∧ (a + 1) % n < n ∧ 0 < up n a b ∧ up n a b < n := by
  have e : (a + 1) % n = if a + 1 = n then 0 else a + 1 := by
    split
    · rename_i h; rw [h]; exact Int.emod_self
    · exact Int.emod_eq_of_lt (by omega) (by omega)
  rw [e]
  unfold up
  refine ⟨?_, ?_, ?_, ?_, ?_⟩ <;> repeat' split
  all_goals omega
theorem up_self (n a : Int) : up n a a = 0 := by unfold up; split <;> omega
theorem up_nonneg {n a b : Int} (a0 : 0 ≤ a) (a1 : a < n) (b0 : 0 ≤ b) (b1 : b < n) : 0 ≤ up n a b := by unfold up; split <;> omega
/-- the greater end climbs -/
theorem tree_step {ps : List Int} (h : TreeOk ps) {x y t : Int} (x0 : 0 ≤ x) (x1 : x < ps.length + 1) (y0 : 0 ≤ y) (yx : y < x) (t0 : 0 ≤ t) :
    (below ps (t.toNat + 1) x.toNat ≠ below ps (t.toNat + 1) y.toNat ↔ t = x - 1 ∨ below ps (t.toNat + 1) (ps.getD (x - 1).toNat 0).toNat ≠ below ps (t.toNat + 1) y.toNat) ∧
    (t = x - 1 → ¬ below ps (t.toNat + 1) (ps.getD (x - 1).toNat 0).toNat ≠ below ps (t.toNat + 1) y.toNat) := by
  have hp := h.2.2 (x - 1).toNat (by omega)
  by_cases c : t = x - 1
  · subst c
    have e1 : (x - 1).toNat + 1 = x.toNat := by omega
    rw [e1, below_self, below_lt y.toNat (by omega), below_lt (ps.getD (x - 1).toNat 0).toNat (by omega)]
    simp
  · have e1 : x.toNat = (x - 1).toNat + 1 := by omega
    have := below_step h (k := t.toNat + 1) (x := (x - 1).toNat) (by omega) (by omega)
    rw [e1, this]
    simp [c]
theorem srt_of {fs ns : List Int} (nd : fs.Nodup) (pm : ns.Perm fs) (srt : ns.Pairwise (· ≤ ·)) : ns.Pairwise (· < ·) := by
  have := srt.and (pm.nodup_iff.mpr nd)
  exact this.imp fun ⟨a, b⟩ => by omega
def pr_ties_on (K : PySem.W.Frag) (v0 v1 : V) (H : Hp) (Q : VK) (_ : XK) : Prop := ∃ (N : Net) (a b : Int), Dp K H v0 N.d ∧ Dp K H v1 (dPair (a, b)) ∧ N.ok ∧ isWay N a b ∧ ∀ p ns H', H p = none → Same H H' → H' p = some (.lst (List.map V.int ns)) → TiesOf N a b ns → Q (.ref p) H'
def t_ties_on (K : PySem.W.Frag) : TS :=
  (tSeq (tAsg (tVar 1) (gTup K 2 (gCons (gName 2) (gCons (gName 3) gNil))))
    (tSeq (tAsg (tLst tNil) (gName 4))
    (tSeq (tIfS (tTest (tOp rEq (tOp (rIxT K) (tVar 0) (tC (.int 0))) (tC (.str (Str.ofString "line"))))) (tRet (tLstRg (tRg2 (tCB rMin2 (tCons (tVar 2) (tCons (tVar 3) tNil))) (tCB rMax2 (tCons (tVar 2) (tCons (tVar 3) tNil)))))) tNext)
    (tSeq (tWhile (tTest (tOp rNe (tVar 2) (tVar 3)))
      (tIfS (tTest (tOp rEq (tOp (rIxT K) (tVar 0) (tC (.int 0))) (tC (.str (Str.ofString "ring"))))) (tSeq (tDrop (tBM K "list" rAppend (tVar 4) (tCons (tVar 2) tNil)))
    (tAsg (tOp xMod (tOp xAdd (tVar 2) (tC (.int 1))) (tOp (rIxT K) (tVar 0) (tC (.int 1)))) (gName 2))) (tIfS (tTest (tOp xGt (tVar 2) (tVar 3))) (tSeq (tDrop (tBM K "list" rAppend (tVar 4) (tCons (tOp xSub (tVar 2) (tC (.int 1))) tNil)))
    (tAsg (tOp (rIxL K) (tOp (rIxT K) (tVar 0) (tC (.int 1))) (tOp xSub (tVar 2) (tC (.int 1)))) (gName 2))) (tSeq (tDrop (tBM K "list" rAppend (tVar 4) (tCons (tOp xSub (tVar 3) (tC (.int 1))) tNil)))
    (tAsg (tOp (rIxL K) (tOp (rIxT K) (tVar 0) (tC (.int 1))) (tOp xSub (tVar 3) (tC (.int 1)))) (gName 3))))))
    (tRet (tCB (rSortedI K) (tCons (tVar 4) tNil)))))))
def Net.far2 (N : Net) (a b a' b' : Int) (fs : List Int) (m : Nat) : Prop := match N with
  | .line _ => True
  | .ring n => (m : Int) = up n a' b' ∧ (fs.length : Int) + m = up n a b
  | .tree _ => (m : Int) = a' + b' ∧ (fs.length : Int) + m ≤ a + b
theorem pure_ties_on {v0 v1 : V} {H : Hp} {Q : VK} {E : XK} (h : pr_ties_on K v0 v1 H Q E) : t_ties_on K ⟨fun _ H' => Q .non H', Q, fun _ _ => False, fun _ _ => False⟩ [some v0, some v1, none, none, none] H := by
  obtain ⟨N, a, b, hd, hw, ok, ⟨w1, w2, w3, w4, w5⟩, q⟩ := h
  obtain ⟨c, y, rfl, hs, hy⟩ := dp_net hd
  obtain ⟨p, rfl, hp⟩ := dp_pair hw
  unfold t_ties_on
  wtm_at "s"
  refine ⟨sz (by simp), fun fo nfo => ?_⟩
  have s1 := same_new (o := .lst []) nfo
  have e1 : upd H fo (.lst []) fo = some (.lst (List.map V.int [])) := upd_same
  generalize upd H fo (.lst []) = H1 at s1 e1 ⊢
  wtm_at "s"
  refine k_eqS ?_
  have loop : ∀ (nx : L2.St → Hp → Prop) (bk ct : L2.St → Hp → Prop), (match N with | .line _ => False | _ => True) → ∀ (W : Nat → L2.St → Hp → Prop), True := fun _ _ _ _ _ => trivial
  cases N with
  | line n =>
    obtain rfl := dp_int hy
    rw [show Net.kind (.line n) = Str.ofString "line" from rfl, s_same]
    obtain ⟨o1, o2⟩ := ok
    have w4' : a < n := w4
    have w5' : b < n := w5
    wtm_at "s"
    have hmn : (if b < a then b else a) = min a b := by split <;> omega
    have hmx : (if b > a then b else a) = max a b := by split <;> omega
    rw [hmn, hmx]
    refine ⟨.of_le (by omega) (by omega) (by omega) (by omega), fun l nl => ?_⟩
    refine q l ((List.range (max a b - min a b).toNat).map fun i => min a b + (i : Nat)) _ (s1.free nl) (s1.trans (same_new nl)) (by rw [upd_same, rg_ints]) ⟨?_, fun t => ?_, ?_⟩
    · exact List.pairwise_map.mpr (List.pairwise_lt_range.imp fun h => by omega)
    · show _ ↔ min a b ≤ t ∧ t < max a b
      rw [List.mem_map]
      constructor
      · rintro ⟨i, hi, rfl⟩
        have := List.mem_range.mp hi
        omega
      · intro h
        exact ⟨(t - min a b).toNat, List.mem_range.mpr (by omega), by omega⟩
    · show ((List.map _ _).length : Int) = max a b - min a b
      rw [List.length_map, List.length_range]
      omega
  | ring n =>
    obtain rfl := dp_int hy
    rw [show Net.kind (.ring n) = Str.ofString "ring" from rfl] at hs ⊢
    rw [s_rl]
    obtain ⟨o1, o2⟩ := ok
    have w4' : a < n := w4
    have w5' : b < n := w5
    have u0 := up_nonneg w2 w4' w3 w5'
    wtm_at "s"
    refine ⟨fun m σ' H' => ∃ a' fs, σ' = [some (.ref c), some (.ref p), some (.int a'), some (.int b), some (.ref fo)] ∧ Same H H' ∧ H' fo = some (.lst (List.map V.int fs)) ∧ 0 ≤ a' ∧ a' < n ∧ fs.Nodup ∧ (m : Int) = up n a' b ∧ (fs.length : Int) + m = up n a b ∧
      (∀ t, OnTie (.ring n) a b t ↔ t ∈ fs ∨ OnTie (.ring n) a' b t) ∧ (∀ t, t ∈ fs → ¬ OnTie (.ring n) a' b t),
      ⟨(up n a b).toNat, a, [], rfl, s1, e1, w2, w4', List.nodup_nil, by omega, by simp; omega, fun t => by simp, fun t z => by cases z⟩, ?_⟩
    rintro m σ' H' ⟨a', fs, rfl, sm, hf, a0, a1, nd, hm, hfl, ht, hn⟩
    wtm_at "s"
    refine k_itn (fun c1 => ?_) (fun c1 => ?_)
    · obtain ⟨f1, f2, f3, f4, f5⟩ := ring_far a0 a1 w3 w5' c1
      have uab : up n a b < n := by unfold up; split <;> omega
      refine ⟨fun σ' H' => ∃ fs', σ' = [some (.ref c), some (.ref p), some (.int ((a' + 1) % n)), some (.int b), some (.ref fo)] ∧ Same H H' ∧ H' fo = some (.lst (List.map V.int fs')) ∧ fs'.Nodup ∧ (fs'.length : Int) + (m - 1 : Nat) = up n a b ∧
        (∀ t, OnTie (.ring n) a b t ↔ t ∈ fs' ∨ OnTie (.ring n) ((a' + 1) % n) b t) ∧ (∀ t, t ∈ fs' → ¬ OnTie (.ring n) ((a' + 1) % n) b t), fun σ' H' ⟨fs', e, g1, g2, g3, g4, g5, g6⟩ => ⟨m - 1, by omega, _, fs', e, g1, g2, f2, f3, g3, by omega, g4, g5, g6⟩, ?_⟩
      have hs' : SqT K H' c [.str (Str.ofString "ring"), .int n] := same_seqT sm hs
      wtm_at "s"
      refine k_eqS ?_
      rw [s_same]
      wtm_at "s"
      refine k_tyL (sl hf) ?_
      wtm_at "s"
      refine k_append hf (by rw [List.length_map]; omega) ?_
      have hs2 : SqT K (upd H' fo (.lst (List.map V.int fs ++ [.int a']))) c [.str (Str.ofString "ring"), .int n] := same_seqT (same_mut sm nfo) hs
      wtm_at "s"
      refine ⟨fs ++ [a'], rfl, same_mut sm nfo, by rw [upd_same, List.map_append]; rfl, ?_, ?_, fun t => ?_, fun t z => ?_⟩
      · refine List.nodup_append.mpr ⟨nd, by simp, fun x hx y hy e => ?_⟩
        have : y = a' := by simpa using hy
        subst this; subst e
        exact hn x hx ⟨a0, a1, by rw [up_self]; exact f4⟩
      · rw [List.length_append]; show ((fs.length + 1 : Nat) : Int) + _ = _; omega
      · rw [ht t, List.mem_append]
        show t ∈ fs ∨ (0 ≤ t ∧ t < n ∧ up n a' t < up n a' b) ↔ (t ∈ fs ∨ t ∈ [a']) ∨ (0 ≤ t ∧ t < n ∧ _)
        by_cases r : 0 ≤ t ∧ t < n
        · have st := (ring_step a0 a1 w3 w5' c1 r.1 r.2).1
          simp only [r.1, r.2, true_and, List.mem_singleton, st, or_assoc]
        · have : t ≠ a' := fun e => r (by omega)
          constructor
          · rintro (h | h)
            · exact .inl (.inl h)
            · exact absurd ⟨h.1, h.2.1⟩ r
          · rintro ((h | h) | h)
            · exact .inl h
            · exact absurd (by simpa using h) this
            · exact absurd ⟨h.1, h.2.1⟩ r
      · rcases List.mem_append.mp z with z | z
        · intro o
          obtain ⟨o1, o2, o3⟩ := o
          exact hn t z ⟨o1, o2, (ring_step a0 a1 w3 w5' c1 o1 o2).1.mpr (.inr o3)⟩
        · have e : t = a' := by simpa using z
          intro o
          obtain ⟨o1, o2, o3⟩ := o
          exact (ring_step a0 a1 w3 w5' c1 o1 o2).2 e o3
    · subst c1
      rw [up_self] at hm
      wtm_at "s"
      refine k_sortedI (sl hf) (fun ns l pm srt nl => ?_)
      refine q l ns _ (sm.free nl) (sm.trans (same_new nl)) upd_same ⟨srt_of nd pm srt, fun t => ?_, ?_⟩
      · rw [pm.mem_iff, ht t]
        constructor
        · exact .inl
        · rintro (h | h)
          · exact h
          · obtain ⟨_, _, h⟩ := h
            rw [up_self] at h
            have := up_nonneg a0 a1 (b := t) (by assumption) (by assumption)
            omega
      · show (ns.length : Int) = up n a a'
        rw [pm.length_eq]; omega
  | tree ps =>
    obtain ⟨d, rfl, hdl⟩ := dp_ints hy
    rw [show Net.kind (.tree ps) = Str.ofString "tree" from rfl] at hs ⊢
    rw [s_tl]
    have w4' : a < ps.length + 1 := w4
    have w5' : b < ps.length + 1 := w5
    have l60 := ok.2.1
    wtm_at "s"
    refine ⟨fun m σ' H' => ∃ a' b' fs, σ' = [some (.ref c), some (.ref p), some (.int a'), some (.int b'), some (.ref fo)] ∧ Same H H' ∧ H' fo = some (.lst (List.map V.int fs)) ∧ 0 ≤ a' ∧ a' < ps.length + 1 ∧ 0 ≤ b' ∧ b' < ps.length + 1 ∧ fs.Nodup ∧ (m : Int) = a' + b' ∧ (fs.length : Int) + m ≤ a + b ∧
      (∀ t, OnTie (.tree ps) a b t ↔ t ∈ fs ∨ OnTie (.tree ps) a' b' t) ∧ (∀ t, t ∈ fs → ¬ OnTie (.tree ps) a' b' t),
      ⟨(a + b).toNat, a, b, [], rfl, s1, e1, w2, w4', w3, w5', List.nodup_nil, by omega, by simp; omega, fun t => by simp, fun t z => by cases z⟩, ?_⟩
    rintro m σ' H' ⟨a', b', fs, rfl, sm, hf, a0, a1, b0, b1, nd, hm, hfl, ht, hn⟩
    wtm_at "s"
    refine k_itn (fun c1 => ?_) (fun c1 => ?_)
    · refine ⟨fun σ' H' => ∃ m' a2 b2 fs', m' < m ∧ σ' = [some (.ref c), some (.ref p), some (.int a2), some (.int b2), some (.ref fo)] ∧ Same H H' ∧ H' fo = some (.lst (List.map V.int fs')) ∧ 0 ≤ a2 ∧ a2 < ps.length + 1 ∧ 0 ≤ b2 ∧ b2 < ps.length + 1 ∧ fs'.Nodup ∧ (m' : Int) = a2 + b2 ∧ (fs'.length : Int) + m' ≤ a + b ∧
        (∀ t, OnTie (.tree ps) a b t ↔ t ∈ fs' ∨ OnTie (.tree ps) a2 b2 t) ∧ (∀ t, t ∈ fs' → ¬ OnTie (.tree ps) a2 b2 t), fun σ' H' ⟨m', a2, b2, fs', l, r⟩ => ⟨m', l, a2, b2, fs', r⟩, ?_⟩
      have hs' : SqT K H' c [.str (Str.ofString "tree"), .ref d] := same_seqT sm hs
      wtm_at "s"
      refine k_eqS ?_
      rw [s_tr]
      wtm_at "s"
      refine k_it (fun c2 => ?_) (fun c2 => ?_)
      · have hpa := ok.2.2 (a' - 1).toNat (by omega)
        wtm_at "s"
        refine k_tyL (sl hf) ?_
        wtm_at "s"
        refine k_append hf (by rw [List.length_map]; omega) ?_
        have sm2 : Same H (upd H' fo (.lst (List.map V.int fs ++ [.int (a' - 1)]))) := same_mut sm nfo
        have hs2 : SqT K (upd H' fo (.lst (List.map V.int fs ++ [.int (a' - 1)]))) c [.str (Str.ofString "tree"), .ref d] := same_seqT sm2 hs
        wtm_at "s"
        refine k_ixI (sm2.seq hdl) (by omega) (by omega) ?_
        wtm_at "s"
        refine ⟨(ps.getD (a' - 1).toNat 0 + b').toNat, _, _, fs ++ [a' - 1], by omega, rfl, sm2, by rw [upd_same, List.map_append]; rfl, by omega, by omega, b0, b1, ?_, by omega, ?_, fun t => ?_, fun t z => ?_⟩
        · refine List.nodup_append.mpr ⟨nd, by simp, fun x hx y hy e => ?_⟩
          have : y = a' - 1 := by simpa using hy
          subst this; subst e
          exact hn _ hx ⟨by omega, by omega, (tree_step ok a0 a1 b0 c2 (by omega)).1.mpr (.inl rfl)⟩
        · rw [List.length_append]; show ((fs.length + 1 : Nat) : Int) + _ ≤ _; omega
        · rw [ht t, List.mem_append]
          show t ∈ fs ∨ (0 ≤ t ∧ t < ps.length ∧ _) ↔ (t ∈ fs ∨ t ∈ [a' - 1]) ∨ (0 ≤ t ∧ t < ps.length ∧ _)
          by_cases r : 0 ≤ t ∧ t < ps.length
          · have st := (tree_step ok a0 a1 b0 c2 r.1).1
            simp only [r.1, r.2, true_and, List.mem_singleton, st, or_assoc]
          · have : t ≠ a' - 1 := fun e => r (by omega)
            constructor
            · rintro (h | h)
              · exact .inl (.inl h)
              · exact absurd ⟨h.1, h.2.1⟩ r
            · rintro ((h | h) | h)
              · exact .inl h
              · exact absurd (by simpa using h) this
              · exact absurd ⟨h.1, h.2.1⟩ r
        · rcases List.mem_append.mp z with z | z
          · rintro ⟨o1, o2, o3⟩
            exact hn t z ⟨o1, o2, (tree_step ok a0 a1 b0 c2 o1).1.mpr (.inr o3)⟩
          · have e : t = a' - 1 := by simpa using z
            rintro ⟨o1, o2, o3⟩
            exact (tree_step ok a0 a1 b0 c2 o1).2 e o3
      · have c3 : a' < b' := by omega
        have hpb := ok.2.2 (b' - 1).toNat (by omega)
        have sym : ∀ u v t, OnTie (.tree ps) u v t ↔ OnTie (.tree ps) v u t := fun u v t => by
          show (_ ∧ _ ∧ _ ≠ _) ↔ (_ ∧ _ ∧ _ ≠ _)
          constructor
          · rintro ⟨x1, x2, x3⟩; exact ⟨x1, x2, x3.symm⟩
          · rintro ⟨x1, x2, x3⟩; exact ⟨x1, x2, x3.symm⟩
        wtm_at "s"
        refine k_tyL (sl hf) ?_
        wtm_at "s"
        refine k_append hf (by rw [List.length_map]; omega) ?_
        have sm2 : Same H (upd H' fo (.lst (List.map V.int fs ++ [.int (b' - 1)]))) := same_mut sm nfo
        have hs2 : SqT K (upd H' fo (.lst (List.map V.int fs ++ [.int (b' - 1)]))) c [.str (Str.ofString "tree"), .ref d] := same_seqT sm2 hs
        wtm_at "s"
        refine k_ixI (sm2.seq hdl) (by omega) (by omega) ?_
        wtm_at "s"
        refine ⟨(a' + ps.getD (b' - 1).toNat 0).toNat, _, _, fs ++ [b' - 1], by omega, rfl, sm2, by rw [upd_same, List.map_append]; rfl, a0, a1, by omega, by omega, ?_, by omega, ?_, fun t => ?_, fun t z => ?_⟩
        · refine List.nodup_append.mpr ⟨nd, by simp, fun x hx y hy e => ?_⟩
          have : y = b' - 1 := by simpa using hy
          subst this; subst e
          exact hn _ hx ((sym _ _ _).mpr ⟨by omega, by omega, (tree_step ok b0 b1 a0 c3 (by omega)).1.mpr (.inl rfl)⟩)
        · rw [List.length_append]; show ((fs.length + 1 : Nat) : Int) + _ ≤ _; omega
        · rw [ht t, List.mem_append, sym a' b', sym a' (ps.getD (b' - 1).toNat 0)]
          show t ∈ fs ∨ (0 ≤ t ∧ t < ps.length ∧ _) ↔ (t ∈ fs ∨ t ∈ [b' - 1]) ∨ (0 ≤ t ∧ t < ps.length ∧ _)
          by_cases r : 0 ≤ t ∧ t < ps.length
          · have st := (tree_step ok b0 b1 a0 c3 r.1).1
            simp only [r.1, r.2, true_and, List.mem_singleton, st, or_assoc]
          · have : t ≠ b' - 1 := fun e => r (by omega)
            constructor
            · rintro (h | h)
              · exact .inl (.inl h)
              · exact absurd ⟨h.1, h.2.1⟩ r
            · rintro ((h | h) | h)
              · exact .inl h
              · exact absurd (by simpa using h) this
              · exact absurd ⟨h.1, h.2.1⟩ r
        · rw [sym]
          rcases List.mem_append.mp z with z | z
          · rintro ⟨o1, o2, o3⟩
            exact hn t z ((sym _ _ _).mpr ⟨o1, o2, (tree_step ok b0 b1 a0 c3 o1).1.mpr (.inr o3)⟩)
          · have e : t = b' - 1 := by simpa using z
            rintro ⟨o1, o2, o3⟩
            exact (tree_step ok b0 b1 a0 c3 o1).2 e o3
    · subst c1
      wtm_at "s"
      refine k_sortedI (sl hf) (fun ns l pm srt nl => ?_)
      refine q l ns _ (sm.free nl) (sm.trans (same_new nl)) upd_same ⟨srt_of nd pm srt, fun t => ?_, ?_⟩
      · rw [pm.mem_iff, ht t]
        constructor
        · exact .inl
        · rintro (h | h)
          · exact h
          · exact absurd rfl h.2.2
      · show ns.length < 120
        rw [pm.length_eq]; omega
abbrev sp_ties_on (K : PySem.W.Frag) : Sp := fun vs H Q E => ∃ v0 v1, vs = [v0, v1] ∧ pr_ties_on K v0 v1 H Q E
theorem ok_ties_on (T : Txt K mg A) : FnOk P w K mg base CX0 1 A.a_ties_on A.d_ties_on ["net", "way"] (sp_ties_on K) := by
  refine T.F_ties_on.ok sc_ties_on (fun vs H Q E h => by obtain ⟨v0, v1, rfl, _⟩ := h; rfl) (fun cdv A0 outer s H vs Q E hr h => ?_)
  obtain ⟨v0, v1, rfl, h⟩ := h
  exact ⟨t_ties_on K, (pss_cons (ps_asg (pv 1) (pg_tup (by rfl) (pgs_cons (pg_name (i := 2) sc_ties_on.nd rfl (Or.inl rfl)) (pgs_cons (pg_name (i := 3) sc_ties_on.nd rfl (Or.inl rfl)) pgs_nil))))
      (pss_cons (ps_set (i := 4) sc_ties_on.nd rfl (Or.inl rfl) (pe_lst pa_nil))
      (pss_cons (ps_if (pt_cmpR op_eq (pe_ix ix_tup (pv 0) pe_int (fun _ _ => rfl)) pe_str (nomark _)) (pss_one (ps_ret (pe_listRg (by rfl) (by rfl) T.z_list (prg_2 (by rfl) T.z_range (pe_callB (q_min2 (by rfl)) (by rfl) T.z_min (by decide +kernel) (pa_cons (pv 2) (pa_cons (pv 3) pa_nil))) (pe_callB (q_max2 (by rfl)) (by rfl) T.z_max (by decide +kernel) (pa_cons (pv 2) (pa_cons (pv 3) pa_nil))))))) pss_nil)
      (pss_cons (ps_while PassesOwn.never (pt_cmpR op_ne (pv 2) (pv 3) (nomark _))
      (pss_one (ps_if (pt_cmpR op_eq (pe_ix ix_tup (pv 0) pe_int (fun _ _ => rfl)) pe_str (nomark _)) (pss_cons (ps_expr (pe_bm PySem.F.plainAttrs_list PySem.F.slot_list_append PySem.F.type_list_append mt_append (pv 4) (pa_cons (pv 2) pa_nil)))
      (pss_one (ps_set (i := 2) sc_ties_on.nd rfl (Or.inl rfl) (pe_op op_mod (pe_op op_add (pv 2) pe_int) (pe_ix ix_tup (pv 0) pe_int (fun _ _ => rfl)))))) (pss_one (ps_if (pt_cmpR op_gt (pv 2) (pv 3) (nomark _)) (pss_cons (ps_expr (pe_bm PySem.F.plainAttrs_list PySem.F.slot_list_append PySem.F.type_list_append mt_append (pv 4) (pa_cons (pe_op op_sub (pv 2) pe_int) pa_nil)))
      (pss_one (ps_set (i := 2) sc_ties_on.nd rfl (Or.inl rfl) (pe_ix ix_list (pe_ix ix_tup (pv 0) pe_int (fun _ _ => rfl)) (pe_op op_sub (pv 2) pe_int) (fun _ _ => rfl))))) (pss_cons (ps_expr (pe_bm PySem.F.plainAttrs_list PySem.F.slot_list_append PySem.F.type_list_append mt_append (pv 4) (pa_cons (pe_op op_sub (pv 3) pe_int) pa_nil)))
      (pss_one (ps_set (i := 3) sc_ties_on.nd rfl (Or.inl rfl) (pe_ix ix_list (pe_ix ix_tup (pv 0) pe_int (fun _ _ => rfl)) (pe_op op_sub (pv 3) pe_int) (fun _ _ => rfl))))))))))
      (pss_one (ps_ret (pe_callB cr_sortedI (by rfl) T.z_sorted (by decide +kernel) (pa_cons (pv 4) pa_nil)))))))), pure_ties_on h⟩


theorem ok_init_NoWay (T : Txt K mg A) : FnOk P w K mg base CX0 1 A.i_NoWay A.di_NoWay ["self", "at"] (spInit A.c_NoWay (Str.ofString "at")) := by
  refine T.Fi_NoWay.ok sc_init_NoWay (fun vs H Q E h => by obtain ⟨v0, v1, rfl, _⟩ := h; rfl) (fun cdv A0 outer s H vs Q E hr h => ?_)
  obtain ⟨v0, v1, rfl, h⟩ := h
  exact ⟨_, pss_cons (ps_expr (pe_binit T.base_ (by rfl) (pa_cons (pv 0) (pa_cons pe_str pa_nil)))) (pss_one (ps_ost (pv 0) (pv 1))), init_reads (B := A.c_TieError) T.o_NoWay T.nf_NoWay h⟩
theorem ok_init_NoHues (T : Txt K mg A) : FnOk P w K mg base CX0 1 A.i_NoHues A.di_NoHues ["self", "place"] (spInit A.c_NoHues (Str.ofString "place")) := by
  refine T.Fi_NoHues.ok sc_init_NoHues (fun vs H Q E h => by obtain ⟨v0, v1, rfl, _⟩ := h; rfl) (fun cdv A0 outer s H vs Q E hr h => ?_)
  obtain ⟨v0, v1, rfl, h⟩ := h
  exact ⟨_, pss_cons (ps_expr (pe_binit T.base_ (by rfl) (pa_cons (pv 0) (pa_cons pe_str pa_nil)))) (pss_one (ps_ost (pv 0) (pv 1))), init_reads (B := A.c_TieError) T.o_NoHues T.nf_NoHues h⟩
/-- two ways of one hue that meet, or a hue below 0 -/
def BadM (M : Nat → Nat → Prop) (n : Nat) (hs : List Int) (i j : Nat) : Prop := i ≤ j ∧ j < n ∧ if i = j then hs.getD i 0 < 0 else hs.getD i 0 = hs.getD j 0 ∧ M i j
def FirstM (M : Nat → Nat → Prop) (n : Nat) (hs : List Int) (i j : Nat) : Prop := BadM M n hs i j ∧ ∀ i' j', i' < i ∨ i' = i ∧ j' < j → ¬ BadM M n hs i' j'
def meetL (lain : List (List Int)) (i j : Nat) : Prop := ∃ t, t ∈ lain.getD i [] ∧ t ∈ lain.getD j []
def OutM (M : Nat → Nat → Prop) (n : Nat) (hs : List Int) (H : Hp) (Q : VK) : Prop := (hs.length ≠ n → ∀ p H', H p = none → Same H H' → H' p = some (.tup [.int (-1), .int (-1)]) → Q (.ref p) H') ∧
  (hs.length = n → (∀ i j, ¬ BadM M n hs i j) → ∀ H', Same H H' → Q .non H') ∧ (∀ i j, hs.length = n → FirstM M n hs i j → ∀ p H', H p = none → Same H H' → H' p = some (.tup [.int (i : Nat), .int (j : Nat)]) → Q (.ref p) H')
def pr_first_clash (K : PySem.W.Frag) (v0 v1 : V) (H : Hp) (Q : VK) (_ : XK) : Prop := ∃ (lain : List (List Int)) (hs : List Int) (M : Nat → Nat → Prop), Dp K H v0 (.list (lain.map dInts)) ∧ Dp K H v1 (dInts hs) ∧ lain.length ≤ 1000 ∧ (∀ l ∈ lain, l.length ≤ 1000) ∧
  (∀ i j, i < lain.length → j < lain.length → (meetL lain i j ↔ M i j)) ∧ OutM M lain.length hs H Q
def t_first_clash (K : PySem.W.Frag) : TS :=
  (tSeq (tIfS (tTest (tOp rNe (tCB (rLen K) (tCons (tVar 1) tNil)) (tCB (rLen K) (tCons (tVar 0) tNil)))) (tRet (tTup (tCons (tUn xNeg (tC (.int 1))) (tCons (tUn xNeg (tC (.int 1))) tNil)))) tNext)
    (tSeq (tFor (iRng1 (tCons (tCB (rLen K) (tCons (tVar 0) tNil)) tNil)) (gName 2)
      (tSeq (tIfS (tTest (tOp xLt (tOp (rIxL K) (tVar 1) (tVar 2)) (tC (.int 0)))) (tRet (tTup (tCons (tVar 2) (tCons (tVar 2) tNil)))) tNext)
    (tFor (iRng2 (tCons (tOp xAdd (tVar 2) (tC (.int 1))) (tCons (tCB (rLen K) (tCons (tVar 0) tNil)) tNil))) (gName 3)
      (tIfS (tAnd (tTest (tOp rEq (tOp (rIxL K) (tVar 1) (tVar 2)) (tOp (rIxL K) (tVar 1) (tVar 3)))) (tTest (tOp xGt (tCB (rLen K) (tCons (tLc (iList K (tOp (rIxL K) (tVar 0) (tVar 2))) (gName 4) (tTest (tOp (rIn K false) (tVar 4) (tOp (rIxL K) (tVar 0) (tVar 3)))) (tVar 4) [4]) tNil)) (tC (.int 0))))) (tRet (tTup (tCons (tVar 2) (tCons (tVar 3) tNil)))) tNext))))
    (tRet (tC .non))))
theorem dlists_get {K : PySem.W.Frag} {H : Hp} {xs : List V} {ls : List (List Int)} {i : Nat} (hxs : DpAll K H xs (ls.map dInts)) (hi : i < ls.length) : ∃ c l, xs[i]? = some (.ref c) ∧ ls[i]? = some l ∧ SqL K H c (l.map V.int) := by
  have hl := dpa_len hxs
  rw [List.length_map] at hl
  have hx : xs[i]? = some (xs[i]'(by omega)) := List.getElem?_eq_getElem (by omega)
  obtain ⟨d, hd1, hd2⟩ := dpa_get hxs hx
  rw [List.getElem?_map] at hd1
  obtain ⟨l, h1, rfl⟩ := Option.map_eq_some_iff.mp hd1
  obtain ⟨c, e, h2⟩ := dp_ints hd2
  exact ⟨c, l, by rw [hx, e], h1, h2⟩
theorem getD_of {α : Type} {l : List α} {i : Nat} {x d : α} (h : l[i]? = some x) : l.getD i d = x := by rw [List.getD_eq_getElem?_getD, h]; rfl
theorem meet_fm (xs ys : List Int) : 0 < (xs.filterMap fun t => if t ∈ ys then some (V.int t) else none).length ↔ ∃ t, t ∈ xs ∧ t ∈ ys := by
  rw [List.length_pos_iff_exists_mem]
  constructor
  · rintro ⟨v, hv⟩
    obtain ⟨t, h1, h2⟩ := List.mem_filterMap.mp hv
    by_cases c : t ∈ ys
    · exact ⟨t, h1, c⟩
    · rw [if_neg c] at h2; cases h2
  · rintro ⟨t, h1, h2⟩
    exact ⟨.int t, List.mem_filterMap.mpr ⟨t, h1, by rw [if_pos h2]⟩⟩
theorem pure_first_clash {v0 v1 : V} {H : Hp} {Q : VK} {E : XK} (h : pr_first_clash K v0 v1 H Q E) : t_first_clash K ⟨fun _ H' => Q .non H', Q, fun _ _ => False, fun _ _ => False⟩ [some v0, some v1, none, none, none] H := by
  obtain ⟨lain, hs, M, hd, hh, n1, n2, hM, q0, q1, q2⟩ := h
  obtain ⟨b, xs, rfl, hb, hxs⟩ := dp_list hd
  obtain ⟨c, rfl, hc⟩ := dp_ints hh
  have hl := dpa_len hxs
  rw [List.length_map] at hl
  unfold t_first_clash
  wtm_at "s"
  refine k_itn (fun ne => ?_) (fun eq => ?_)
  · wtm_at "s"
    exact kT (by simp) (fun p H1 np s1 e1 => q0 (by omega) p H1 np s1 e1)
  have eq' : hs.length = lain.length := by omega
  clear eq q0 hh hd
  wtm_at "s"
  refine forR (fun i σ' H' => Same H H' ∧ (∃ k2 k3, σ' = [some (.ref b), some (.ref c), k2, k3, none]) ∧ ∀ i' j', i' < i → ¬ BadM M lain.length hs i' j') ⟨Same.refl _, ⟨none, none, rfl⟩, fun i' j' z => by omega⟩ ?_ ?_
  · rintro i σ' H1 hi ⟨s1, ⟨k2, k3, rfl⟩, no⟩
    rw [Int.zero_add]
    have hi' : i < lain.length := by omega
    obtain ⟨x, hx⟩ : ∃ x, hs[i]? = some x := ⟨hs[i], List.getElem?_eq_getElem (by omega)⟩
    obtain ⟨ci, li, hxi, hli, hci⟩ := dlists_get hxs hi'
    wtm_at "s"
    refine k_ixN (s1.seq hc) hx ?_
    wtm_at "s"
    refine k_it (fun neg => ?_) (fun pos => ?_)
    · wtm_at "s"
      refine kT (by simp) (fun p H2 np s2 e2 => q2 i i eq' ⟨⟨Nat.le_refl _, hi', by rw [if_pos rfl, getD_of hx]; exact neg⟩, fun i' j' z => ?_⟩ p H2 (s1.free np) (s1.trans s2) e2)
      rcases z with z | ⟨rfl, z⟩
      · exact no i' j' z
      · exact fun w => by have := w.1; omega
    · wtm_at "s"
      refine forR (fun t σ' H' => Same H H' ∧ (∃ k3, σ' = [some (.ref b), some (.ref c), some (.int (i : Nat)), k3, none]) ∧ ∀ j', j' < i + 1 + t → ¬ BadM M lain.length hs i j') ⟨s1, ⟨k3, rfl⟩, fun j' z w => ?_⟩ ?_ ?_
      · have e : i = j' := by have := w.1; omega
        subst e
        have := w.2.2
        rw [if_pos rfl, getD_of hx] at this
        exact pos this
      · rintro t σ' H2 ht ⟨s2, ⟨k3, rfl⟩, no2⟩
        rw [show (i : Int) + 1 + ((t : Nat) : Int) = ((i + 1 + t : Nat) : Int) by omega]
        have hj' : i + 1 + t < lain.length := by omega
        have step : ¬ BadM M lain.length hs i (i + 1 + t) → ∀ j', j' < i + 1 + (t + 1) → ¬ BadM M lain.length hs i j' := fun nb j' z => by
          by_cases e : j' = i + 1 + t
          · rw [e]; exact nb
          · exact no2 j' (by omega)
        obtain ⟨y, hy⟩ : ∃ y, hs[i + 1 + t]? = some y := ⟨hs[i + 1 + t], List.getElem?_eq_getElem (by omega)⟩
        obtain ⟨cj, lj, hxj, hlj, hcj⟩ := dlists_get hxs hj'
        have bad : BadM M lain.length hs i (i + 1 + t) ↔ x = y ∧ ∃ t, t ∈ li ∧ t ∈ lj := by
          unfold BadM
          rw [if_neg (by omega), getD_of hx, getD_of hy, ← hM i _ hi' hj']
          unfold meetL
          rw [getD_of hli, getD_of hlj]
          constructor
          · exact fun z => z.2.2
          · exact fun z => ⟨by omega, hj', z⟩
        generalize hje : i + 1 + t = j at hy hxj hlj bad step hj'
        wtm_at "s"
        refine k_ixN (s2.seq hc) hx ?_
        wtm_at "s"
        refine k_ixN (s2.seq hc) hy ?_
        wtm_at "s"
        refine k_it (fun e1 => ?_) (fun e1 => ?_)
        · wtm_at "s"
          refine k_ixL (s2.seq hb) (atI_nat hxi) ?_
          refine lc_pure (s2.seq hci) li (by simp) (by have := n2 li (List.mem_of_getElem? hli); omega) (fun t => if t ∈ lj then some (V.int t) else none) ?_ (fun D H3 nD s3 eD => ?_)
          · intro k z p H' hz hp sm R R0 h1 h2
            rw [List.getElem?_map, hp] at hz
            cases hz
            wtm_at "s"
            refine k_ixL (sm.seq (s2.seq hb)) (atI_nat hxj) ?_
            have hcj' := sm.seq (s2.seq hcj)
            wtm_at "s"
            refine k_it (fun w => ?_) (fun w => ?_)
            · wtm_at "s"
              exact h1 _ (by rw [if_pos w])
            · exact h2 (by rw [if_neg w])
          · wtm_at "s"
            refine k_it (fun w => ?_) (fun w => ?_)
            · wtm_at "s"
              have mt := (meet_fm li lj).mp (by omega)
              refine kT (by simp) (fun p H4 np s4 e4 => q2 i j eq' ⟨bad.mpr ⟨e1, mt⟩, fun i' j' z => ?_⟩ p H4 ((s2.trans s3).free np) (s2.trans (s3.trans s4)) e4)
              rcases z with z | ⟨rfl, z⟩
              · exact no i' j' z
              · exact no2 j' (by omega)
            · wtm_at "s"
              exact ⟨s2.trans s3, ⟨_, rfl⟩, step fun z => w (by have := (meet_fm li lj).mpr (bad.mp z).2; omega)⟩
        · wtm_at "s"
          exact ⟨s2, ⟨_, rfl⟩, step fun z => e1 (bad.mp z).1⟩
      · rintro σ' H2 ⟨s2, ⟨k3, rfl⟩, no2⟩
        refine ⟨s2, ⟨_, _, rfl⟩, fun i' j' z => ?_⟩
        by_cases e : i' = i
        · subst e
          by_cases hj : j' < lain.length
          · exact no2 j' (by omega)
          · exact fun w => hj w.2.1
        · exact no i' j' (by omega)
  · rintro σ' H1 ⟨s1, ⟨k2, k3, rfl⟩, no⟩
    wtm_at "s"
    exact q1 eq' (fun i j z => no i j (by have := z.1; have := z.2.1; omega) z) H1 s1
abbrev sp_first_clash (K : PySem.W.Frag) : Sp := fun vs H Q E => ∃ v0 v1, vs = [v0, v1] ∧ pr_first_clash K v0 v1 H Q E
theorem ok_first_clash (T : Txt K mg A) : FnOk P w K mg base CX0 1 A.a_first_clash A.d_first_clash ["lain", "hues"] (sp_first_clash K) := by
  refine T.F_first_clash.ok sc_first_clash (fun vs H Q E h => by obtain ⟨v0, v1, rfl, _⟩ := h; rfl) (fun cdv A0 outer s H vs Q E hr h => ?_)
  obtain ⟨v0, v1, rfl, h⟩ := h
  exact ⟨t_first_clash K, (pss_cons (ps_if (pt_cmpR op_ne (pe_callB q_len (by rfl) T.z_len (by decide +kernel) (pa_cons (pv 1) pa_nil)) (pe_callB q_len (by rfl) T.z_len (by decide +kernel) (pa_cons (pv 0) pa_nil)) (nomark _)) (pss_one (ps_ret (pe_tup (pa_cons (pe_un un_neg pe_int) (pa_cons (pe_un un_neg pe_int) pa_nil))))) pss_nil)
      (pss_cons (ps_for PassesOwn.never rfl (pi_range1 (by rfl) T.z_range (pa_cons (pe_callB q_len (by rfl) T.z_len (by decide +kernel) (pa_cons (pv 0) pa_nil)) pa_nil)) (pg_name (i := 2) sc_first_clash.nd rfl (Or.inl rfl))
      (pss_cons (ps_if (pt_cmpR op_lt (pe_ix ix_list (pv 1) (pv 2) (fun _ _ => rfl)) pe_int (nomark _)) (pss_one (ps_ret (pe_tup (pa_cons (pv 2) (pa_cons (pv 2) pa_nil))))) pss_nil)
      (pss_one (ps_for PassesOwn.never rfl (pi_range2 (by rfl) T.z_range (pa_cons (pe_op op_add (pv 2) pe_int) (pa_cons (pe_callB q_len (by rfl) T.z_len (by decide +kernel) (pa_cons (pv 0) pa_nil)) pa_nil))) (pg_name (i := 3) sc_first_clash.nd rfl (Or.inr rfl))
      (pss_one (ps_if (PW.pt (pw_and (pt_cmpR op_eq (pe_ix ix_list (pv 1) (pv 2) (fun _ _ => rfl)) (pe_ix ix_list (pv 1) (pv 3) (fun _ _ => rfl)) (nomark _)) (pw_and1 (pt_cmpR op_gt (pe_callB q_len (by rfl) T.z_len (by decide +kernel) (pa_cons (pe_lc (own := [("tie", 4)]) (by rfl) sc_first_clash.nd (pi_list (pe_ix ix_list (pv 0) (pv 2) (fun _ _ => rfl))) (blkOk_by (own := [("tie", 4)]) (N := ["lain", "hues", "i", "j", "tie"]) (sc := defScope s_first_clash) (by decide +kernel)) (fun _ _ _ _ _ => (pg_name (i := 4) sc_first_clash.nd rfl (Or.inl rfl))) (fun _ _ _ _ _ => (pts_one (pt_cmpR op_in_seq (pv 4) (pe_ix ix_list (pv 0) (pv 3) (fun _ _ => rfl)) (by rfl)))) (fun _ _ _ _ _ => (pv 4))) pa_nil)) pe_int (nomark _))))) (pss_one (ps_ret (pe_tup (pa_cons (pv 2) (pa_cons (pv 3) pa_nil))))) pss_nil))))))
      (pss_one (ps_ret pe_non)))), pure_first_clash h⟩
def pr_used (K : PySem.W.Frag) (v0 : V) (H : Hp) (Q : VK) (_ : XK) : Prop := ∃ hs : List Int, Dp K H v0 (dInts hs) ∧ hs.length ≤ 4000 ∧ Q (.int (unl hs : Nat)) H
def t_used (K : PySem.W.Frag) : TS :=
  (tRet (tLenU K (tVar 0)))
theorem pure_used {v0 : V} {H : Hp} {Q : VK} {E : XK} (h : pr_used K v0 H Q E) : t_used K ⟨fun _ H' => Q .non H', Q, fun _ _ => False, fun _ _ => False⟩ [some v0] H := by
  obtain ⟨hs, hd, hl, q⟩ := h
  obtain ⟨c, rfl, hc⟩ := dp_ints hd
  unfold t_used
  wtm_at "s"
  exact k_lenU hc hl q
abbrev sp_used (K : PySem.W.Frag) : Sp := fun vs H Q E => ∃ v0, vs = [v0] ∧ pr_used K v0 H Q E
theorem ok_used (T : Txt K mg A) : FnOk P w K mg base CX0 1 A.a_used A.d_used ["hues"] (sp_used K) := by
  refine T.F_used.ok sc_used (fun vs H Q E h => by obtain ⟨v0, rfl, _⟩ := h; rfl) (fun cdv A0 outer s H vs Q E hr h => ?_)
  obtain ⟨v0, rfl, h⟩ := h
  exact ⟨t_used K, (pss_one (ps_ret (pe_lenU (by rfl) (by rfl) T.z_len (by rfl) T.z_set (pv 0)))), pure_used h⟩
/-- the numbers below n that P takes -/
def keepI (n : Nat) (P : Nat → Bool) : List Int := ((List.range n).filter P).map fun (i : Nat) => (i : Int)
theorem keepI_fm (n : Nat) (P : Nat → Bool) : (List.range n).filterMap (fun i => if P i = true then some (V.int (0 + (i : Nat))) else none) = List.map V.int (keepI n P) := by
  unfold keepI
  rw [List.map_map]
  induction (List.range n) with
  | nil => rfl
  | cons x r ih =>
    by_cases c : P x = true
    · rw [List.filterMap_cons, if_pos c, List.filter_cons, if_pos c]
      simp only [List.map_cons]
      rw [ih]
      simp
    · rw [List.filterMap_cons, if_neg c, List.filter_cons, if_neg c]
      exact ih
theorem keepI_srt (n : Nat) (P : Nat → Bool) : (keepI n P).Pairwise (· < ·) := by
  unfold keepI
  exact List.pairwise_map.mpr ((List.pairwise_lt_range.filter P).imp fun h => by omega)
theorem keepI_mem {n : Nat} {P : Nat → Bool} {t : Int} : t ∈ keepI n P ↔ 0 ≤ t ∧ t < n ∧ P t.toNat = true := by
  unfold keepI
  rw [List.mem_map]
  constructor
  · rintro ⟨i, hi, rfl⟩
    obtain ⟨h1, h2⟩ := List.mem_filter.mp hi
    have := List.mem_range.mp h1
    exact ⟨by omega, by omega, by rw [Int.toNat_natCast]; exact h2⟩
  · rintro ⟨h0, h1, h2⟩
    exact ⟨t.toNat, List.mem_filter.mpr ⟨List.mem_range.mpr (by omega), h2⟩, by omega⟩


def meetW (N : Net) (ws : List (Int × Int)) (i j : Nat) : Prop := ∃ w v t, ws[i]? = some w ∧ ws[j]? = some v ∧ OnTie N w.1 w.2 t ∧ OnTie N v.1 v.2 t
def LainOf (N : Net) (ws : List (Int × Int)) (lain : List (List Int)) : Prop := lain.length = ws.length ∧ ∀ (i : Nat) w l, ws[i]? = some w → lain[i]? = some l → l.Pairwise (· < ·) ∧ ∀ t, t ∈ l ↔ OnTie N w.1 w.2 t
theorem LainOf.meet {N : Net} {ws : List (Int × Int)} {lain : List (List Int)} (h : LainOf N ws lain) {i j : Nat} (hi : i < lain.length) (hj : j < lain.length) : meetL lain i j ↔ meetW N ws i j := by
  obtain ⟨hl, h⟩ := h
  have e1 : ws[i]? = some (ws[i]'(by omega)) := List.getElem?_eq_getElem (by omega)
  have e2 : ws[j]? = some (ws[j]'(by omega)) := List.getElem?_eq_getElem (by omega)
  have e3 : lain[i]? = some lain[i] := List.getElem?_eq_getElem hi
  have e4 : lain[j]? = some lain[j] := List.getElem?_eq_getElem hj
  unfold meetL meetW
  rw [getD_of e3, getD_of e4]
  constructor
  · rintro ⟨t, h1, h2⟩
    exact ⟨_, _, t, e1, e2, ((h i _ _ e1 e3).2 t).mp h1, ((h j _ _ e2 e4).2 t).mp h2⟩
  · rintro ⟨w, v, t, f1, f2, h1, h2⟩
    rw [e1] at f1; rw [e2] at f2
    cases f1; cases f2
    exact ⟨t, ((h i _ _ e1 e3).2 t).mpr h1, ((h j _ _ e2 e4).2 t).mpr h2⟩
theorem ok_places {N : Net} (h : N.ok) : N.places ≤ 60 := by
  cases N with
  | line n => exact h.2
  | ring n => exact h.2
  | tree ps => show (ps.length : Int) + 1 ≤ 60; have := h.2.1; omega
/-- the ties of each way, one list for each -/
theorem lc_lainG {σ : L2.St} {vs : List Nat} {j : Nat} {te : TE} {a : Addr} {xs : List V} {N : Net} {ws : List (Int × Int)} {H1 : Hp} {QD : Addr → Hp → Prop} (S0 : List Addr) (hS : ∀ b ∈ S0, H1 b ≠ none) (hs : SqL K H1 a xs) (hxs : DpAll K H1 xs (ws.map dPair)) (hz : ws.length ≤ 1000)
    (step : ∀ c w H' (R : V → Hp → Prop), w ∈ ws → Same H1 H' → SqT K H' c [.int w.1, .int w.2] → (∀ p ns H'', H' p = none → Same H' H'' → H'' p = some (.lst (List.map V.int ns)) → ns.Pairwise (· < ·) → (∀ t, t ∈ ns ↔ OnTie N w.1 w.2 t) → R (.ref p) H'') → te ((wipe σ vs).set j (some (.ref c))) H' R)
    (hwp : ∀ x, wipe ((wipe σ vs).set j (some x)) vs = wipe σ vs)
    (h : ∀ D lain H', H1 D = none → Same H1 H' → Dp K (hid S0 H') (.ref D) (.list (lain.map dInts)) → LainOf N ws lain → QD D H') :
    ∃ a', V.ref a = .ref a' ∧ (∃ xs, SqL K H1 a' xs) ∧ ∀ D, H1 D = none → ∃ W : Nat → Nat → Hp → Prop, (∃ m, W 0 m (upd H1 D (.lst []))) ∧ ∀ t m H, W t m H →
      ((Itl K a').stop t H ∧ QD D H) ∨ ((Itl K a').go t H ∧ ∃ Nx : Hp → Prop, (∀ H', Nx H' → ∃ m', m' < m ∧ W (t + 1) m' H') ∧ ∀ x H', (Itl K a').yld t H x H' → gName j x (wipe σ vs) H' fun σ2 H2 => wipe σ2 vs = wipe σ vs ∧ tYes σ2 H2 fun b H3 =>
        if b = true then te σ2 H3 fun y H4 => ∃ acc, H4 D = some (.lst acc) ∧ acc.length < sizeLine ∧ Nx (upd H4 D (.lst (acc ++ [y]))) else Nx H3) := by
  have hl := dpa_len hxs
  rw [List.length_map] at hl
  refine ⟨a, rfl, ⟨xs, hs⟩, fun D nD => lc_list (xs := xs) (fun t H => Same H1 H ∧ ∃ ys lain, H D = some (.lst ys) ∧ DpAll K (hid (D :: S0) H) ys (lain.map dInts) ∧ LainOf N (ws.take t) lain) ⟨same_new nD, [], [], upd_same, .nil, ⟨by simp, fun i w l z => by simp at z⟩⟩ (fun t H _ e => e.1.seq hs) ?_ ?_⟩
  · rintro t x H hx ⟨sm, ys, lain, hD, hys, ⟨ll, hla⟩⟩
    have ht : t < ws.length := by rw [← hl]; exact (List.getElem?_eq_some_iff.mp hx).1
    obtain ⟨w, c, hw, rfl, hc⟩ := dpairs_get hxs hx
    refine k_gname (k_wipe (hwp _) ?_)
    refine k_yes (iteT (step c w H _ (List.mem_of_getElem? hw) sm (same_seqT sm hc) fun p ns H' np s' hp srt mem => ?_))
    have pD : p ∉ D :: S0 := fun z => by
      rcases List.mem_cons.mp z with z | z
      · rw [z, hD] at np; cases np
      · exact hS p z (sm.free np)
    have ly := dpa_len hys
    rw [List.length_map] at ly
    have lt : (ws.take t).length = t := by rw [List.length_take]; omega
    refine ⟨ys, s' _ _ hD, szl (by omega), same_mut (sm.trans s') nD, ys ++ [.ref p], lain ++ [ns], upd_same, ?_, ⟨?_, fun k w' l hk hkl => ?_⟩⟩
    · rw [hid_upd (by simp), List.map_append]
      exact dpa_app (dpa_same (hid_mono s') hys) (.cons (dp_of_ints (sl (by rw [hid_ne pD]; exact hp))) .nil)
    · rw [List.length_append, ll, List.take_add_one, hw]; simp
    · rw [List.take_add_one, hw] at hk
      by_cases ck : k < t
      · rw [List.getElem?_append_left (by omega)] at hk hkl
        exact hla k w' l hk hkl
      · have e : k = t := by
          have := (List.getElem?_eq_some_iff.mp hk).1
          rw [List.length_append, lt] at this
          simp at this; omega
        subst e
        rw [List.getElem?_append_right (by omega), lt] at hk
        rw [List.getElem?_append_right (by omega), ll, lt] at hkl
        simp at hk hkl
        subst hk; subst hkl
        exact ⟨srt, mem⟩
  · rintro H ⟨sm, ys, lain, hD, hys, hla⟩
    rw [hl, List.take_length] at hla
    refine h D lain H nD sm (.lst (sl (xs := ys) ?_) (dpa_same (hid_sub fun x hx => List.mem_cons_of_mem _ hx) hys)) hla
    rw [hid_ne fun z => hS D z nD]; exact hD
theorem ss_len60 : ∀ {xs : List Int} {lo hi : Int}, xs.Pairwise (· < ·) → (∀ t ∈ xs, lo ≤ t ∧ t < hi) → xs.length ≤ (hi - lo).toNat
  | [], _, _, _, _ => Nat.zero_le _
  | x :: xs, lo, hi, h, hb => by
    obtain ⟨a1, a2⟩ := List.pairwise_cons.mp h
    have := ss_len60 (lo := x + 1) (hi := hi) a2 fun t ht => ⟨by have := a1 t ht; omega, (hb t (List.mem_cons_of_mem _ ht)).2⟩
    have := hb x List.mem_cons_self
    rw [List.length_cons]; omega
theorem tie_in {N : Net} (ok : N.ok) {a b t : Int} (h : isWay N a b) (ht : OnTie N a b t) : 0 ≤ t ∧ t < 60 := by
  obtain ⟨w1, w2, w3, w4, w5⟩ := h
  cases N with
  | line n => have h1 : a < n := w4; have h2 : b < n := w5; have h3 : n ≤ 60 := ok.2; have h4 : min a b ≤ t ∧ t < max a b := ht; omega
  | ring n => have h3 : n ≤ 60 := ok.2; have h4 : 0 ≤ t ∧ t < n ∧ _ := ht; omega
  | tree ps => have h3 : ps.length < 60 := ok.2.1; have h4 : 0 ≤ t ∧ t < (ps.length : Int) ∧ _ := ht; omega
theorem LainOf.small {N : Net} {ws : List (Int × Int)} {lain : List (List Int)} (h : LainOf N ws lain) (ok : N.ok) (hok : ∀ w ∈ ws, isWay N w.1 w.2) : ∀ l ∈ lain, l.length ≤ 60 := fun l hl => by
  obtain ⟨i, hi, e⟩ := List.getElem_of_mem hl
  obtain ⟨h1, h2⟩ := h
  have e1 : ws[i]? = some (ws[i]'(by omega)) := List.getElem?_eq_getElem (by omega)
  obtain ⟨s, m⟩ := h2 i _ l e1 (by rw [List.getElem?_eq_getElem hi, e])
  exact ss_len60 (lo := 0) (hi := 60) s fun t ht => tie_in ok (hok _ (List.mem_of_getElem? e1)) ((m t).mp ht)


/-! ### the forcer's ways -/
def fa (hs : List Int) (m : Nat) : List Nat := (List.range m).filter fun k => decide (hs.getD k 0 = hs.getD (m - 1) 0)
def fourAt (hs : List Int) (m : Nat) : Option (List Nat × Nat) := if (fa hs m).length = 4 then some (fa hs m, m) else none
def fourAlike (hs : List Int) : Option (List Nat × Nat) := (List.range (hs.length - 3)).findSome? fun i => fourAt hs (4 + i)
theorem findSome_first {α : Type} {f : Nat → Option α} {n i : Nat} (h : ∀ j, j < i → f j = none) (hi : i < n) {x : α} (hx : f i = some x) : (List.range n).findSome? f = some x := by
  have e : (List.range n) = (List.range i) ++ i :: (List.range' (i + 1) (n - i - 1)) := by
    rw [List.range_eq_range', List.range_eq_range', show i :: List.range' (i + 1) (n - i - 1) = List.range' i (n - i - 1 + 1) from rfl]
    have := List.range'_append_1 (s := 0) (m := i) (n := n - i - 1 + 1)
    rw [Nat.zero_add] at this
    rw [this]
    congr 1
    omega
  rw [e, List.findSome?_append, List.findSome?_eq_none_iff.mpr (fun j hj => h j (List.mem_range.mp hj))]
  simp [hx]
def wayBy (hs : List Int) (a b d m : Nat) : Option (Int × Int) := if hs.length = m then some (4 * a + 1, 4 * a + 3) else if hs.length = m + 1 then some (4 * d, 4 * d + 2) else
  if hs.length = m + 2 then (if hs.getD m 0 = hs.getD (m + 1) 0 then some (4 * a + 2, 4 * b + 3) else some (4 * a + 2, 4 * d + 1)) else if hs.length = m + 3 then some (4 * b + 2, 4 * d + 1) else none
def wayFor (hs : List Int) : Option (Int × Int) := if 4 ≤ unl hs then none else match fourAlike (hs.take 10) with
  | none => some (4 * hs.length + 1, 4 * hs.length + 2)
  | some (al, m) => wayBy hs (al.getD 0 0) (al.getD 1 0) (al.getD 3 0) m
theorem met_mem {val : Nat → Int} : ∀ {n j : Nat}, j < n → val j ∈ PyProof.Rows.firstMet val n
  | 0, j, h => by omega
  | n + 1, j, h => by
    rw [PyProof.Rows.firstMet_succ]
    unfold PyProof.Rows.step_dedup
    by_cases c : j < n
    · have := met_mem (val := val) c
      split
      · exact this
      · exact List.mem_append_left _ this
    · have e : j = n := by omega
      subst e
      split
      · rename_i hb
        obtain ⟨y, hy, e⟩ := List.any_eq_true.mp hb
        rw [← eq_of_beq e]; exact hy
      · exact List.mem_append_right _ (List.mem_singleton.mpr rfl)
def met (hs : List Int) : List Int := PyProof.Rows.firstMet (fun i => hs.getD i 0) hs.length
theorem met_len (hs : List Int) : (met hs).length = unl hs := rfl
theorem in_met {hs : List Int} {x : Int} (h : x ∈ hs) : x ∈ met hs := by
  obtain ⟨i, hi, e⟩ := List.getElem_of_mem h
  have := met_mem (val := fun i => hs.getD i 0) hi
  have e2 : hs.getD i 0 = x := by rw [getD_of (List.getElem?_eq_getElem hi), e]
  have this' : hs.getD i 0 ∈ met hs := this
  rwa [e2] at this'
theorem sum_count {D : List Int} : ∀ {l : List Int}, (∀ x ∈ l, x ∈ D) → l.length ≤ (D.map fun d => l.count d).sum
  | [], _ => by simp
  | x :: r, h => by
    have ih := sum_count (D := D) (l := r) fun y hy => h y (List.mem_cons_of_mem _ hy)
    have hx := h x List.mem_cons_self
    have : (D.map fun d => r.count d).sum + 1 ≤ (D.map fun d => (x :: r).count d).sum := by
      clear ih h
      induction D with
      | nil => cases hx
      | cons d D ihD =>
        rw [List.map_cons, List.map_cons, List.sum_cons, List.sum_cons]
        have mono : (D.map fun d => r.count d).sum ≤ (D.map fun d => (x :: r).count d).sum := by
          clear ihD hx
          induction D with
          | nil => simp
          | cons e D ihE =>
            rw [List.map_cons, List.map_cons, List.sum_cons, List.sum_cons]
            have : r.count e ≤ (x :: r).count e := by rw [List.count_cons]; omega
            omega
        rcases List.mem_cons.mp hx with rfl | hx
        · rw [List.count_cons_self]; omega
        · have := ihD hx
          have : r.count d ≤ (x :: r).count d := by rw [List.count_cons]; omega
          omega
    rw [List.length_cons]; omega
theorem count_take (hs : List Int) (d : Int) : ∀ n, (hs.take (n + 1)).count d ≤ (hs.take n).count d + 1 := fun n => by
  rw [List.take_add_one, List.count_append]
  cases hs[n]? with
  | none => simp
  | some x =>
    have : ([x] : List Int).count d ≤ 1 := by
      have := List.count_le_length (a := d) (l := [x])
      simpa using this
    simpa using this
theorem count_four {hs : List Int} {d : Int} : ∀ {n : Nat}, 4 ≤ (hs.take n).count d → ∃ m, m < n ∧ (hs.take m).count d = 3 ∧ (hs.take (m + 1)).count d = 4
  | 0, h => by simp at h
  | n + 1, h => by
    by_cases c : 4 ≤ (hs.take n).count d
    · obtain ⟨m, h1, h2⟩ := count_four c
      exact ⟨m, by omega, h2⟩
    · have := count_take hs d n
      exact ⟨n, by omega, by omega, by omega⟩
theorem fa_count {hs : List Int} {m : Nat} (hm : m < hs.length) : (fa hs (m + 1)).length = (hs.take (m + 1)).count (hs.getD m 0) := by
  unfold fa
  rw [Nat.add_sub_cancel]
  have key : ∀ v n, n ≤ hs.length → ((List.range n).filter fun k => decide (hs.getD k 0 = v)).length = (hs.take n).count v := by
    intro v n
    induction n with
    | zero => intro _; simp
    | succ n ih =>
      intro hn
      have hx : hs[n]? = some hs[n] := List.getElem?_eq_getElem (by omega)
      rw [List.range_succ, List.filter_append, List.length_append, ih (by omega), List.take_add_one, List.count_append, hx]
      congr 1
      have hg : hs.getD n 0 = hs[n] := getD_of hx
      rw [List.filter_cons, hg]
      by_cases c : hs[n] = v
      · simp [c]
      · simp [c]
  exact key _ (m + 1) (by omega)
theorem four_there {hs : List Int} (h : unl hs < 4) (hl : 10 ≤ hs.length) : fourAlike (hs.take 10) ≠ none := by
  have l10 : (hs.take 10).length = 10 := by simp; omega
  have s1 := sum_count (D := met hs) (l := hs.take 10) fun x hx => in_met (List.mem_of_mem_take hx)
  have : ∃ d, 4 ≤ (hs.take 10).count d := by
    refine Classical.byContradiction fun z => ?_
    have s2 := sum_le (l := (met hs).map fun d => (hs.take 10).count d) (b := 3) fun x hx => by
      obtain ⟨d, _, rfl⟩ := List.mem_map.mp hx
      by_cases c : 4 ≤ (hs.take 10).count d
      · exact absurd ⟨d, c⟩ z
      · omega
    rw [List.length_map, met_len] at s2
    omega
  obtain ⟨d, hd⟩ := this
  have hd' : 4 ≤ ((hs.take 10).take 10).count d := by rw [List.take_take]; exact hd
  obtain ⟨m, m1, m2, m3⟩ := count_four hd'
  have hm : m < (hs.take 10).length := by omega
  have hx : (hs.take 10)[m]? = some (hs.take 10)[m] := List.getElem?_eq_getElem hm
  have ed : (hs.take 10).getD m 0 = d := by
    rw [getD_of hx]
    rw [List.take_add_one, List.count_append, m2, hx] at m3
    simp only [Option.toList_some] at m3
    rw [List.count_singleton] at m3
    by_cases c : (hs.take 10)[m] == d
    · exact eq_of_beq c
    · rw [if_neg c] at m3; omega
  have f4 : (fa (hs.take 10) (m + 1)).length = 4 := by rw [fa_count hm, ed, m3]
  have m3' : 3 ≤ m := by
    have := List.count_le_length (a := d) (l := (hs.take 10).take m)
    rw [m2] at this
    simp at this
    omega
  intro hn
  unfold fourAlike at hn
  rw [List.findSome?_eq_none_iff] at hn
  have := hn (m - 3) (List.mem_range.mpr (by omega))
  rw [show 4 + (m - 3) = m + 1 by omega] at this
  unfold fourAt at this
  rw [if_pos f4] at this
  cases this
theorem four_is {hs : List Int} {al : List Nat} {m : Nat} (h : fourAlike hs = some (al, m)) : m ≤ hs.length ∧ ∃ a b c d, al = [a, b, c, d] ∧ a < b ∧ b < c ∧ c < d ∧ d < m := by
  unfold fourAlike at h
  obtain ⟨i, hi, e⟩ := List.exists_of_findSome?_eq_some h
  have hi' := List.mem_range.mp hi
  unfold fourAt at e
  by_cases c : (fa hs (4 + i)).length = 4
  · rw [if_pos c] at e
    cases e
    refine ⟨by omega, ?_⟩
    have srt : (fa hs (4 + i)).Pairwise (· < ·) := List.pairwise_lt_range.filter _
    have mem : ∀ x ∈ fa hs (4 + i), x < 4 + i := fun x hx => List.mem_range.mp (List.mem_filter.mp hx).1
    generalize fa hs (4 + i) = l at c srt mem
    match l, c with
    | [a, b, c', d], _ =>
      simp only [List.pairwise_cons, List.mem_cons, List.not_mem_nil, or_false, forall_eq_or_imp, forall_eq] at srt
      exact ⟨a, b, c', d, rfl, srt.1.1, srt.2.1.1, srt.2.2.1, mem d (by simp)⟩
  · rw [if_neg c] at e; cases e
theorem way_isWay {hs : List Int} {w : Int × Int} (h : wayFor hs = some w) : unl hs < 4 ∧ isWay (.line 41) w.1 w.2 := by
  unfold wayFor at h
  by_cases c : 4 ≤ unl hs
  · rw [if_pos c] at h; cases h
  rw [if_neg c] at h
  refine ⟨by omega, ?_⟩
  cases hf : fourAlike (hs.take 10) with
  | none =>
    rw [hf] at h
    cases h
    have : hs.length < 10 := by
      by_cases z : hs.length < 10
      · exact z
      · exact absurd hf (four_there (by omega) (by omega))
    exact ⟨by show 4 * (hs.length : Int) + 1 ≠ 4 * hs.length + 2; omega, by show 0 ≤ 4 * (hs.length : Int) + 1; omega, by show 0 ≤ 4 * (hs.length : Int) + 2; omega, by show 4 * (hs.length : Int) + 1 < 41; omega, by show 4 * (hs.length : Int) + 2 < 41; omega⟩
  | some p =>
    obtain ⟨al, m⟩ := p
    rw [hf] at h
    obtain ⟨m1, a, b, c', d, rfl, h1, h2, h3, h4⟩ := four_is hf
    have m10 : m ≤ 10 := by simp at m1; omega
    have h' : wayBy hs a b d m = some w := h
    unfold wayBy at h'
    have fin : ∀ x y : Int, x ≠ y → 0 ≤ x → 0 ≤ y → x < 41 → y < 41 → isWay (.line 41) x y := fun x y z1 z2 z3 z4 z5 => ⟨z1, z2, z3, z4, z5⟩
    split at h'
    · cases h'; exact fin _ _ (by omega) (by omega) (by omega) (by omega) (by omega)
    split at h'
    · cases h'; exact fin _ _ (by omega) (by omega) (by omega) (by omega) (by omega)
    split at h'
    · split at h'
      · cases h'; exact fin _ _ (by omega) (by omega) (by omega) (by omega) (by omega)
      · cases h'; exact fin _ _ (by omega) (by omega) (by omega) (by omega) (by omega)
    split at h'
    · cases h'; exact fin _ _ (by omega) (by omega) (by omega) (by omega) (by omega)
    · cases h'


def pr_four_alike (K : PySem.W.Frag) (v0 : V) (H : Hp) (Q : VK) (_ : XK) : Prop := ∃ (c : Addr) (hs : List Int), v0 = .ref c ∧ SqL K H c (hs.map V.int) ∧ hs.length ≤ 1000 ∧ (fourAlike hs = none → ∀ H', Same H H' → Q .non H') ∧
  (∀ al m, fourAlike hs = some (al, m) → ∀ t l H', Same H H' → H' t = some (.tup [.ref l, .int (m : Nat)]) → H' l = some (.lst (al.map fun k => V.int (k : Nat))) → Q (.ref t) H')
def t_four_alike (K : PySem.W.Frag) : TS :=
  (tSeq (tFor (iRng2 (tCons (tC (.int 4)) (tCons (tOp xAdd (tCB (rLen K) (tCons (tVar 0) tNil)) (tC (.int 1))) tNil))) (gName 1)
      (tSeq (tAsg (tLc (iRng1 (tCons (tVar 1) tNil)) (gName 3) (tTest (tOp rEq (tOp (rIxL K) (tVar 0) (tVar 3)) (tOp (rIxL K) (tVar 0) (tOp xSub (tVar 1) (tC (.int 1)))))) (tVar 3) [3]) (gName 2))
    (tIfS (tTest (tOp rEq (tCB (rLen K) (tCons (tVar 2) tNil)) (tC (.int 4)))) (tRet (tTup (tCons (tVar 2) (tCons (tVar 1) tNil)))) tNext)))
    (tRet (tC .non)))
theorem keep_fa (hs : List Int) (m : Nat) : List.map V.int (keepI m fun k => decide (hs.getD k 0 = hs.getD (m - 1) 0)) = (fa hs m).map fun k => V.int (k : Nat) := by
  unfold keepI fa
  rw [List.map_map]; rfl
theorem pure_four_alike {v0 : V} {H : Hp} {Q : VK} {E : XK} (h : pr_four_alike K v0 H Q E) : t_four_alike K ⟨fun _ H' => Q .non H', Q, fun _ _ => False, fun _ _ => False⟩ [some v0, none, none, none] H := by
  obtain ⟨c, hs, rfl, hc, hz, q0, q1⟩ := h
  unfold t_four_alike
  wtm_at "s"
  refine forR (fun i σ' H' => Same H H' ∧ (∃ k1 k2, σ' = [some (.ref c), k1, k2, none]) ∧ ∀ j, j < i → fourAt hs (4 + j) = none) ⟨Same.refl _, ⟨none, none, rfl⟩, fun j z => by omega⟩ ?_ ?_
  · rintro i σ' H1 hi ⟨s1, ⟨k1, k2, rfl⟩, no⟩
    rw [show (4 : Int) + ((i : Nat) : Int) = ((4 + i : Nat) : Int) by omega]
    have hm : 4 + i ≤ hs.length := by omega
    generalize hmm : 4 + i = m at hm ⊢
    obtain ⟨y, hy⟩ : ∃ y, hs[m - 1]? = some y := ⟨hs[m - 1]'(by omega), List.getElem?_eq_getElem (by omega)⟩
    wtm_at "s"
    refine lc_pureR (by omega) (fun k => if (fun k : Nat => decide (hs.getD k 0 = hs.getD (m - 1) 0)) k = true then some (V.int (0 + (k : Nat))) else none) ?_ (fun D H2 nD s2 eD => ?_)
    · intro k H' hk sm R R0 h1 h2
      have hc' := (s1.trans sm).seq hc
      obtain ⟨x, hx⟩ : ∃ x, hs[k]? = some x := ⟨hs[k]'(by omega), List.getElem?_eq_getElem (by omega)⟩
      simp only [getD_of hx, getD_of hy] at h1 h2
      rw [Int.zero_add] at h1 ⊢
      wtm_at "s"
      refine k_ixN hc' hx ?_
      wtm_at "s"
      rw [show (m : Int) - 1 = ((m - 1 : Nat) : Int) by omega]
      refine k_ixN hc' hy ?_
      wtm_at "s"
      refine k_it (fun w => ?_) (fun w => ?_)
      · wtm_at "s"
        exact h1 _ (by rw [if_pos (decide_eq_true w)])
      · exact h2 (by rw [if_neg (by simpa using w)])
    · rw [keepI_fm, Int.toNat_natCast, keep_fa] at eD
      wtm_at "s"
      rw [List.length_map]
      refine k_it (fun w => ?_) (fun w => ?_)
      · wtm_at "s"
        have f4 : fourAt hs (4 + i) = some (fa hs m, m) := by rw [hmm]; unfold fourAt; rw [if_pos (by omega)]
        refine kT (by simp) (fun t H3 nt s3 e3 => ?_)
        exact q1 _ _ (findSome_first no (by omega) f4) t D H3 (s1.trans (s2.trans s3)) e3 (s3 _ _ eD)
      · wtm_at "s"
        refine ⟨s1.trans s2, ⟨_, _, rfl⟩, fun j hj => ?_⟩
        by_cases e : j = i
        · subst e; rw [hmm]; unfold fourAt; rw [if_neg (by omega)]
        · exact no j (by omega)
  · rintro σ' H1 ⟨s1, ⟨k1, k2, rfl⟩, no⟩
    wtm_at "s"
    exact q0 (List.findSome?_eq_none_iff.mpr fun j hj => no j (by have := List.mem_range.mp hj; omega)) H1 s1
abbrev sp_four_alike (K : PySem.W.Frag) : Sp := fun vs H Q E => ∃ v0, vs = [v0] ∧ pr_four_alike K v0 H Q E
theorem ok_four_alike (T : Txt K mg A) : FnOk P w K mg base CX0 1 A.a_four_alike A.d_four_alike ["hues"] (sp_four_alike K) := by
  refine T.F_four_alike.ok sc_four_alike (fun vs H Q E h => by obtain ⟨v0, rfl, _⟩ := h; rfl) (fun cdv A0 outer s H vs Q E hr h => ?_)
  obtain ⟨v0, rfl, h⟩ := h
  exact ⟨t_four_alike K, (pss_cons (ps_for PassesOwn.never rfl (pi_range2 (by rfl) T.z_range (pa_cons pe_int (pa_cons (pe_op op_add (pe_callB q_len (by rfl) T.z_len (by decide +kernel) (pa_cons (pv 0) pa_nil)) pe_int) pa_nil))) (pg_name (i := 1) sc_four_alike.nd rfl (Or.inr rfl))
      (pss_cons (ps_setLc (i := 2) (own := [("k", 3)]) (by rfl) sc_four_alike.nd rfl rfl (sw_true rfl rfl rfl (by decide +kernel)) (pi_range1 (by rfl) T.z_range (pa_cons (pv 1) pa_nil)) (blkOk_by (own := [("k", 3)]) (N := ["hues", "many", "alike", "k"]) (sc := defScope s_four_alike) (by decide +kernel)) (fun _ _ _ _ _ => (pg_name (i := 3) sc_four_alike.nd rfl (Or.inl rfl))) (fun _ _ _ _ _ => (pts_one (pt_cmpR op_eq (pe_ix ix_list (pv 0) (pv 3) (fun _ _ => rfl)) (pe_ix ix_list (pv 0) (pe_op op_sub (pv 1) pe_int) (fun _ _ => rfl)) (nomark _)))) (fun _ _ _ _ _ => (pv 3)))
      (pss_one (ps_if (pt_cmpR op_eq (pe_callB q_len (by rfl) T.z_len (by decide +kernel) (pa_cons (pv 2) pa_nil)) pe_int (nomark _)) (pss_one (ps_ret (pe_tup (pa_cons (pv 2) (pa_cons (pv 1) pa_nil))))) pss_nil))))
      (pss_one (ps_ret pe_non))), pure_four_alike h⟩
def pr_way_for (K : PySem.W.Frag) (v0 : V) (H : Hp) (Q : VK) (_ : XK) : Prop := ∃ (c : Addr) (hs : List Int), v0 = .ref c ∧ SqL K H c (hs.map V.int) ∧ hs.length ≤ 1000 ∧ (wayFor hs = none → ∀ H', Same H H' → Q .non H') ∧
  (∀ x y, wayFor hs = some (x, y) → ∀ p H', H p = none → Same H H' → H' p = some (.tup [.int x, .int y]) → Q (.ref p) H')
def t_way_for (K : PySem.W.Frag) : TS :=
  (tSeq (tIfS (tTest (tOp xGe (tCall (sp_used K) [] E0 (tCons (tVar 0) tNil)) (tC (.int 4)))) (tRet (tC .non)) tNext)
    (tSeq (tAsg (tCall (sp_four_alike K) [] E0 (tCons (tSl (rSlL K) (tVar 0) tNoPart (tPart (tC (.int 10)))) tNil)) (gName 1))
    (tSeq (tIfS (tTest (tOp xIsN (tVar 1) (tC .non))) (tRet (tTup (tCons (tOp xAdd (tOp xMul (tC (.int 4)) (tCB (rLen K) (tCons (tVar 0) tNil))) (tC (.int 1))) (tCons (tOp xAdd (tOp xMul (tC (.int 4)) (tCB (rLen K) (tCons (tVar 0) tNil))) (tC (.int 2))) tNil)))) tNext)
    (tSeq (tAsg (tVar 1) (gTup K 2 (gCons (gName 2) (gCons (gName 3) gNil))))
    (tSeq (tAsg (tVar 2) (gUnl K 4 (gCons (gName 4) (gCons (gName 5) (gCons (gName 6) (gCons (gName 7) gNil))))))
    (tSeq (tIfS (tTest (tOp rEq (tCB (rLen K) (tCons (tVar 0) tNil)) (tVar 3))) (tRet (tTup (tCons (tOp xAdd (tOp xMul (tC (.int 4)) (tVar 4)) (tC (.int 1))) (tCons (tOp xAdd (tOp xMul (tC (.int 4)) (tVar 4)) (tC (.int 3))) tNil)))) tNext)
    (tSeq (tIfS (tTest (tOp rEq (tCB (rLen K) (tCons (tVar 0) tNil)) (tOp xAdd (tVar 3) (tC (.int 1))))) (tRet (tTup (tCons (tOp xMul (tC (.int 4)) (tVar 7)) (tCons (tOp xAdd (tOp xMul (tC (.int 4)) (tVar 7)) (tC (.int 2))) tNil)))) tNext)
    (tSeq (tIfS (tTest (tOp rEq (tCB (rLen K) (tCons (tVar 0) tNil)) (tOp xAdd (tVar 3) (tC (.int 2))))) (tSeq (tIfS (tTest (tOp rNe (tOp (rIxL K) (tVar 0) (tVar 3)) (tOp (rIxL K) (tVar 0) (tOp xAdd (tVar 3) (tC (.int 1)))))) (tRet (tTup (tCons (tOp xAdd (tOp xMul (tC (.int 4)) (tVar 4)) (tC (.int 2))) (tCons (tOp xAdd (tOp xMul (tC (.int 4)) (tVar 7)) (tC (.int 1))) tNil)))) tNext)
    (tRet (tTup (tCons (tOp xAdd (tOp xMul (tC (.int 4)) (tVar 4)) (tC (.int 2))) (tCons (tOp xAdd (tOp xMul (tC (.int 4)) (tVar 5)) (tC (.int 3))) tNil))))) tNext)
    (tSeq (tIfS (tTest (tOp rEq (tCB (rLen K) (tCons (tVar 0) tNil)) (tOp xAdd (tVar 3) (tC (.int 3))))) (tRet (tTup (tCons (tOp xAdd (tOp xMul (tC (.int 4)) (tVar 5)) (tC (.int 2))) (tCons (tOp xAdd (tOp xMul (tC (.int 4)) (tVar 7)) (tC (.int 1))) tNil)))) tNext)
    (tRet (tC .non)))))))))))
theorem pure_way_for {v0 : V} {H : Hp} {Q : VK} {E : XK} (h : pr_way_for K v0 H Q E) : t_way_for K ⟨fun _ H' => Q .non H', Q, fun _ _ => False, fun _ _ => False⟩ [some v0, none, none, none, none, none, none, none] H := by
  obtain ⟨c, hs, rfl, hc, hz, q0, q1⟩ := h
  unfold wayFor at q0 q1
  unfold t_way_for
  wtm_at "s"
  refine ⟨_, rfl, hs, dp_of_ints hc, by omega, ?_⟩
  wtm_at "s"
  refine k_it (fun c4 => ?_) (fun c4 => ?_)
  · wtm_at "s"
    exact q0 (by rw [if_pos (by omega)]) H (Same.refl _)
  rw [if_neg (by omega)] at q0
  simp only [if_neg (show ¬ 4 ≤ unl hs by omega)] at q1
  wtm_at "s"
  refine k_slL hc (fun p1 H1 np1 s1 e1 => ?_)
  rw [show (10 : Int) = ((10 : Nat) : Int) from rfl, cut_to, ← List.map_take] at e1
  have hc1 := s1.seq hc
  wtm_at "s"
  refine ⟨_, rfl, p1, hs.take 10, rfl, sl e1, by simp; omega, fun hn H2 s2 => ?_, fun al m hn t l H2 s2 et el => ?_⟩
  · rw [hn] at q1
    have hc2 := s2.seq hc1
    wtm_at "s"
    refine kT (by simp) (fun t H3 nt s3 e3 => ?_)
    exact q1 _ _ rfl t H3 ((s1.trans s2).free nt) (s1.trans (s2.trans s3)) e3
  · rw [hn] at q0 q1
    obtain ⟨m1, a, b, c', d, rfl, h1, h2, h3, h4⟩ := four_is hn
    have q0' : wayBy hs a b d m = none → ∀ H', Same H H' → Q .non H' := q0
    have q1' : ∀ x y, wayBy hs a b d m = some (x, y) → ∀ p H', H p = none → Same H H' → H' p = some (.tup [.int x, .int y]) → Q (.ref p) H' := q1
    clear q0 q1
    unfold wayBy at q0' q1'
    have s12 := s1.trans s2
    have hc2 := s2.seq hc1
    have el' : SqL K H2 l [.int (a : Nat), .int (b : Nat), .int (c' : Nat), .int (d : Nat)] := sl el
    have mk : ∀ x y, (if hs.length = m then some (4 * (a : Int) + 1, 4 * (a : Int) + 3) else if hs.length = m + 1 then some (4 * (d : Int), 4 * (d : Int) + 2) else
      if hs.length = m + 2 then (if hs.getD m 0 = hs.getD (m + 1) 0 then some (4 * (a : Int) + 2, 4 * (b : Int) + 3) else some (4 * (a : Int) + 2, 4 * (d : Int) + 1)) else if hs.length = m + 3 then some (4 * (b : Int) + 2, 4 * (d : Int) + 1) else none) = some (x, y) → newT [.int x, .int y] H2 Q := fun x y e => kT (by simp) (fun p H3 np s3 e3 => q1' x y e p H3 (s12.free np) (s12.trans s3) e3)
    wtm_at "s"
    refine k_gunl el' rfl ?_
    wtm_at "s"
    refine k_it (fun d1 => ?_) (fun d1 => ?_)
    · wtm_at "s"
      exact mk _ _ (by rw [if_pos (by omega)])
    wtm_at "s"
    refine k_it (fun d2 => ?_) (fun d2 => ?_)
    · wtm_at "s"
      exact mk _ _ (by rw [if_neg (by omega), if_pos (by omega)])
    wtm_at "s"
    refine k_it (fun d3 => ?_) (fun d3 => ?_)
    · obtain ⟨x, hx⟩ : ∃ x, hs[m]? = some x := ⟨hs[m]'(by omega), List.getElem?_eq_getElem (by omega)⟩
      obtain ⟨y, hy⟩ : ∃ y, hs[m + 1]? = some y := ⟨hs[m + 1]'(by omega), List.getElem?_eq_getElem (by omega)⟩
      wtm_at "s"
      refine k_ixN hc2 hx ?_
      wtm_at "s"
      rw [show (m : Int) + 1 = ((m + 1 : Nat) : Int) by omega]
      refine k_ixN hc2 hy ?_
      wtm_at "s"
      rw [getD_of hx, getD_of hy] at mk
      refine k_itn (fun d4 => ?_) (fun d4 => ?_)
      · wtm_at "s"
        exact mk _ _ (by rw [if_neg (by omega), if_neg (by omega), if_pos (by omega), if_neg d4])
      · wtm_at "s"
        exact mk _ _ (by rw [if_neg (by omega), if_neg (by omega), if_pos (by omega), if_pos d4])
    wtm_at "s"
    refine k_it (fun d5 => ?_) (fun d5 => ?_)
    · wtm_at "s"
      exact mk _ _ (by rw [if_neg (by omega), if_neg (by omega), if_neg (by omega), if_pos (by omega)])
    · wtm_at "s"
      exact q0' (by rw [if_neg (by omega), if_neg (by omega), if_neg (by omega), if_neg (by omega)]) H2 s12
abbrev sp_way_for (K : PySem.W.Frag) : Sp := fun vs H Q E => ∃ v0, vs = [v0] ∧ pr_way_for K v0 H Q E
theorem ok_way_for (T : Txt K mg A) : FnOk P w K mg base CX0 2 A.a_way_for A.d_way_for ["hues"] (sp_way_for K) := by
  refine T.F_way_for.ok sc_way_for (fun vs H Q E h => by obtain ⟨v0, rfl, _⟩ := h; rfl) (fun cdv A0 outer s H vs Q E hr h => ?_)
  obtain ⟨v0, rfl, h⟩ := h
  exact ⟨t_way_for K, (pss_cons (ps_if (pt_cmpR op_ge (pe_call (ok_used T) (hr.mono (by decide)) (by rfl) T.g_used T.F_used.kp T.b_used .nil pass0 (pa_cons (pv 0) pa_nil)) pe_int (nomark _)) (pss_one (ps_ret pe_non)) pss_nil)
      (pss_cons (ps_set (i := 1) sc_way_for.nd rfl (Or.inl rfl) (pe_call (ok_four_alike T) (hr.mono (by decide)) (by rfl) T.g_four_alike T.F_four_alike.kp T.b_four_alike .nil pass0 (pa_cons (pe_slice sl_list (pv 0) po_none (po_some pe_int)) pa_nil)))
      (pss_cons (ps_if (pt_cmpR op_isN (pv 1) pe_non (nomark _)) (pss_one (ps_ret (pe_tup (pa_cons (pe_op op_add (pe_op op_mul pe_int (pe_callB q_len (by rfl) T.z_len (by decide +kernel) (pa_cons (pv 0) pa_nil))) pe_int) (pa_cons (pe_op op_add (pe_op op_mul pe_int (pe_callB q_len (by rfl) T.z_len (by decide +kernel) (pa_cons (pv 0) pa_nil))) pe_int) pa_nil))))) pss_nil)
      (pss_cons (ps_asg (pv 1) (pg_tup (by rfl) (pgs_cons (pg_name (i := 2) sc_way_for.nd rfl (Or.inl rfl)) (pgs_cons (pg_name (i := 3) sc_way_for.nd rfl (Or.inl rfl)) pgs_nil))))
      (pss_cons (ps_asg (pv 2) (pg_unl (by rfl) (pgs_cons (pg_name (i := 4) sc_way_for.nd rfl (Or.inl rfl)) (pgs_cons (pg_name (i := 5) sc_way_for.nd rfl (Or.inl rfl)) (pgs_cons (pg_name (i := 6) sc_way_for.nd rfl (Or.inl rfl)) (pgs_cons (pg_name (i := 7) sc_way_for.nd rfl (Or.inl rfl)) pgs_nil))))))
      (pss_cons (ps_if (pt_cmpR op_eq (pe_callB q_len (by rfl) T.z_len (by decide +kernel) (pa_cons (pv 0) pa_nil)) (pv 3) (nomark _)) (pss_one (ps_ret (pe_tup (pa_cons (pe_op op_add (pe_op op_mul pe_int (pv 4)) pe_int) (pa_cons (pe_op op_add (pe_op op_mul pe_int (pv 4)) pe_int) pa_nil))))) pss_nil)
      (pss_cons (ps_if (pt_cmpR op_eq (pe_callB q_len (by rfl) T.z_len (by decide +kernel) (pa_cons (pv 0) pa_nil)) (pe_op op_add (pv 3) pe_int) (nomark _)) (pss_one (ps_ret (pe_tup (pa_cons (pe_op op_mul pe_int (pv 7)) (pa_cons (pe_op op_add (pe_op op_mul pe_int (pv 7)) pe_int) pa_nil))))) pss_nil)
      (pss_cons (ps_if (pt_cmpR op_eq (pe_callB q_len (by rfl) T.z_len (by decide +kernel) (pa_cons (pv 0) pa_nil)) (pe_op op_add (pv 3) pe_int) (nomark _)) (pss_cons (ps_if (pt_cmpR op_ne (pe_ix ix_list (pv 0) (pv 3) (fun _ _ => rfl)) (pe_ix ix_list (pv 0) (pe_op op_add (pv 3) pe_int) (fun _ _ => rfl)) (nomark _)) (pss_one (ps_ret (pe_tup (pa_cons (pe_op op_add (pe_op op_mul pe_int (pv 4)) pe_int) (pa_cons (pe_op op_add (pe_op op_mul pe_int (pv 7)) pe_int) pa_nil))))) pss_nil)
      (pss_one (ps_ret (pe_tup (pa_cons (pe_op op_add (pe_op op_mul pe_int (pv 4)) pe_int) (pa_cons (pe_op op_add (pe_op op_mul pe_int (pv 5)) pe_int) pa_nil)))))) pss_nil)
      (pss_cons (ps_if (pt_cmpR op_eq (pe_callB q_len (by rfl) T.z_len (by decide +kernel) (pa_cons (pv 0) pa_nil)) (pe_op op_add (pv 3) pe_int) (nomark _)) (pss_one (ps_ret (pe_tup (pa_cons (pe_op op_add (pe_op op_mul pe_int (pv 5)) pe_int) (pa_cons (pe_op op_add (pe_op op_mul pe_int (pv 7)) pe_int) pa_nil))))) pss_nil)
      (pss_one (ps_ret pe_non))))))))))), pure_way_for h⟩


def ConsW (ws : List (Int × Int)) (hs : List Int) (n : Nat) : Prop := ∀ k, k < n → ws[k]? = wayFor (hs.take k)
def XHues (A : Ad) (H : Hp) (E : XK) : Prop := ∀ H' d, Same H H' → H' d = none → E (.ref A.c_NoHues) (some d) (upd H' d (.xd [(Str.ofString "place", .non)]))
def XWay (A : Ad) (k : Nat) (H : Hp) (E : XK) : Prop := ∀ H' d, Same H H' → H' d = none → E (.ref A.c_NoWay) (some d) (upd H' d (.xd [(Str.ofString "at", .int k)]))
/-- what next_way tells -/
structure NextIs (A : Ad) (ws : List (Int × Int)) (hs : List Int) (H : Hp) (Q : VK) (E : XK) : Prop where
  many : hs.length ≠ ws.length ∨ (∃ h ∈ hs, h < 0) → XHues A H E
  way : hs.length = ws.length → (∀ h ∈ hs, 0 ≤ h) → ∀ k, k < ws.length → ConsW ws hs k → ws[k]? ≠ wayFor (hs.take k) → XWay A k H E
  hues : hs.length = ws.length → (∀ h ∈ hs, 0 ≤ h) → ConsW ws hs ws.length → ∀ i j, BadM (meetW (.line 41) ws) ws.length hs i j → XHues A H E
  tell0 : hs.length = ws.length → (∀ h ∈ hs, 0 ≤ h) → ConsW ws hs ws.length → (∀ i j, ¬ BadM (meetW (.line 41) ws) ws.length hs i j) → wayFor hs = none → ∀ H', Same H H' → Q .non H'
  tell1 : hs.length = ws.length → (∀ h ∈ hs, 0 ≤ h) → ConsW ws hs ws.length → (∀ i j, ¬ BadM (meetW (.line 41) ws) ws.length hs i j) → ∀ x y, wayFor hs = some (x, y) → ∀ p H', H p = none → Same H H' → H' p = some (.tup [.int x, .int y]) → Q (.ref p) H'
def pr_next_way (K : PySem.W.Frag) (A : Ad) (v0 v1 : V) (H : Hp) (Q : VK) (E : XK) : Prop := ∃ (ws : List (Int × Int)) (hs : List Int), Dp K H v0 (dPairs ws) ∧ Dp K H v1 (dInts hs) ∧ ws.length ≤ 100 ∧ hs.length ≤ 100 ∧ NextIs A ws hs H Q E
def t_next_way (K : PySem.W.Frag) (A : Ad) (E : XK) : TS :=
  (tSeq (tIfS (tOr (tTest (tOp rNe (tCB (rLen K) (tCons (tVar 1) tNil)) (tCB (rLen K) (tCons (tVar 0) tNil)))) (tTest (tOp xGt (tCB (rLen K) (tCons (tLc (iList K (tVar 1)) (gName 3) (tTest (tOp xLt (tVar 3) (tC (.int 0)))) (tVar 3) [3]) tNil)) (tC (.int 0))))) (tRaiseO A.c_NoHues (spInit A.c_NoHues (Str.ofString "place")) (tCons (tC .non) tNil) E) tNext)
    (tSeq (tFor (iRng1 (tCons (tCB (rLen K) (tCons (tVar 0) tNil)) tNil)) (gName 2)
      (tIfS (tTest (tOp (rNeD K) (tOp (rIxL K) (tVar 0) (tVar 2)) (tCall (sp_way_for K) [] E0 (tCons (tSl (rSlL K) (tVar 1) tNoPart (tPart (tVar 2))) tNil)))) (tRaiseO A.c_NoWay (spInit A.c_NoWay (Str.ofString "at")) (tCons (tVar 2) tNil) E) tNext))
    (tSeq (tIfS (tTest (tOp xNotN (tCall (sp_first_clash K) [] E0 (tCons (tLc (iList K (tVar 0)) (gName 4) tYes (tCall (sp_ties_on K) [] E0 (tCons (tC (.ref A.g_LINE)) (tCons (tVar 4) tNil))) [4]) (tCons (tVar 1) tNil))) (tC .non))) (tRaiseO A.c_NoHues (spInit A.c_NoHues (Str.ofString "place")) (tCons (tC .non) tNil) E) tNext)
    (tRet (tCall (sp_way_for K) [] E0 (tCons (tVar 1) tNil))))))
theorem neg_fm (hs : List Int) : 0 < (hs.filterMap fun h => if h < 0 then some (V.int h) else none).length ↔ ∃ h ∈ hs, h < 0 := by
  rw [List.length_pos_iff_exists_mem]
  constructor
  · rintro ⟨v, hv⟩
    obtain ⟨t, h1, h2⟩ := List.mem_filterMap.mp hv
    by_cases c : t < 0
    · exact ⟨t, h1, c⟩
    · rw [if_neg c] at h2; cases h2
  · rintro ⟨t, h1, h2⟩
    exact ⟨.int t, List.mem_filterMap.mpr ⟨t, h1, by rw [if_pos h2]⟩⟩
theorem eqv_pair (p q : Int × Int) : PyData.eqv (dPair p) (dPair q) = decide (p = q) := by
  show ((p.1 == q.1) && ((p.2 == q.2) && true)) = _
  obtain ⟨a, b⟩ := p
  obtain ⟨c, d⟩ := q
  by_cases h1 : a = c
  · by_cases h2 : b = d
    · simp [h1, h2]
    · simp [h1, h2]
  · simp [h1]
theorem cons_all {ws : List (Int × Int)} {hs : List Int} (h : ConsW ws hs ws.length) : ∀ w ∈ ws, isWay (.line 41) w.1 w.2 := fun w hw => by
  obtain ⟨k, hk, e⟩ := List.getElem_of_mem hw
  have := h k hk
  rw [List.getElem?_eq_getElem hk, e] at this
  exact (way_isWay this.symm).2
theorem pure_next_way (T : Txt K mg A) {v0 v1 : V} {H : Hp} {Q : VK} {E : XK} (h : pr_next_way K A v0 v1 H Q E) : t_next_way K A E ⟨fun _ H' => Q .non H', Q, fun _ _ => False, fun _ _ => False⟩ [some v0, some v1, none, none, none] H := by
  obtain ⟨ws, hs, hw, hh, wz, hz, q⟩ := h
  obtain ⟨b, xs, rfl, hb, hxs⟩ := dp_list hw
  obtain ⟨c, rfl, hc⟩ := dp_ints hh
  have hl := dpa_len hxs
  rw [List.length_map] at hl
  unfold t_next_way
  wtm_at "s"
  refine k_itn (fun ne => ?_) (fun eq => ?_)
  · wtm_at "s"
    refine k_raiseO (f := Str.ofString "place") (v := .non) (fun R h => ?_) (fun d nd => q.many (.inl (by omega)) H d (Same.refl _) nd)
    wtm_at "s"; exact h
  have eq' : hs.length = ws.length := by omega
  clear eq
  wtm_at "s"
  refine lc_pure hc hs (by simp) (by omega) (fun h => if h < 0 then some (V.int h) else none) ?_ (fun D H1 nD s1 eD => ?_)
  · intro k z p H' hz hp sm R R0 h1 h2
    rw [List.getElem?_map, hp] at hz
    cases hz
    wtm_at "s"
    refine k_it (fun w => ?_) (fun w => ?_)
    · wtm_at "s"
      exact h1 _ (by rw [if_pos w])
    · exact h2 (by rw [if_neg w])
  wtm_at "s"
  refine k_it (fun c1 => ?_) (fun c1 => ?_)
  · wtm_at "s"
    refine k_raiseO (f := Str.ofString "place") (v := .non) (fun R h => ?_) (fun d nd => q.many (.inr ((neg_fm hs).mp (by omega))) H1 d s1 nd)
    wtm_at "s"; exact h
  have pos : ∀ h ∈ hs, 0 ≤ h := fun h hh => by
    by_cases z : 0 ≤ h
    · exact z
    · exact absurd ((neg_fm hs).mpr ⟨h, hh, by omega⟩) (by omega)
  clear eD c1
  have hb1 := s1.seq hb
  have hc1 := s1.seq hc
  wtm_at "s"
  refine forR (fun i σ' H' => Same H H' ∧ (∃ k2, σ' = [some (.ref b), some (.ref c), k2, none, none]) ∧ ConsW ws hs i) ⟨s1, ⟨none, rfl⟩, fun k z => by omega⟩ ?_ ?_
  · rintro i σ' H2 hi ⟨s2, ⟨k2, rfl⟩, cn⟩
    rw [Int.zero_add]
    have hi' : i < ws.length := by omega
    obtain ⟨x, hx⟩ : ∃ x, xs[i]? = some x := ⟨xs[i]'(by omega), List.getElem?_eq_getElem (by omega)⟩
    obtain ⟨w, cw, hwi, rfl, hcw⟩ := dpairs_get hxs hx
    wtm_at "s"
    refine k_ixL (s2.seq hb) (atI_nat hx) ?_
    wtm_at "s"
    refine k_slL (s2.seq hc) (fun p1 H3 np1 s3 e3 => ?_)
    rw [cut_to, ← List.map_take] at e3
    have s23 := s2.trans s3
    have dcw : ∀ H', Same H3 H' → Dp K H' (.ref cw) (dPair w) := fun H' s' => dp_of_pair (same_seqT (s23.trans s') hcw)
    have bad : ws[i]? ≠ wayFor (hs.take i) → ∀ H', Same H3 H' → ∀ D : Ends, tRaiseO A.c_NoWay (spInit A.c_NoWay (Str.ofString "at")) (tCons (tVar 2) tNil) E D [some (.ref b), some (.ref c), some (.int (i : Nat)), none, none] H' := fun ne H' s' D => by
      refine k_raiseO (f := Str.ofString "at") (v := .int (i : Nat)) (fun R h => ?_) (fun d nd => q.way eq' pos i hi' cn ne H' d (s23.trans s') nd)
      wtm_at "s"; exact h
    wtm_at "s"
    refine ⟨_, rfl, p1, hs.take i, rfl, sl e3, by simp; omega, fun hn H4 s4 => ?_, fun x' y' hn p H4 np s4 e4 => ?_⟩
    · refine k_neD (n := 4) (dcw H4 s4) .non (sh_pair _) sh_none (by decide) ?_
      refine ⟨_, rfl, iteT ?_⟩
      exact bad (by rw [hwi, hn]; exact fun z => nomatch z) H4 s4 _
    · refine k_neD (n := 4) (d := dPair (x', y')) (dcw H4 s4) (dp_of_pair (stp e4)) (sh_pair _) (sh_pair _) (by decide) ?_
      rw [eqv_pair]
      refine ⟨_, rfl, ?_⟩
      refine k_itn (fun ne => ?_) (fun eqw => ?_)
      · exact bad (by rw [hwi, hn]; exact fun z => ne (Option.some.inj z)) H4 s4 _
      · refine k_next ⟨s23.trans s4, ⟨_, rfl⟩, fun k hk => ?_⟩
        by_cases e : k = i
        · subst e; rw [hwi, hn, eqw]
        · exact cn k (by omega)
  · rintro σ' H2 ⟨s2, ⟨k2, rfl⟩, cn⟩
    have cn' : ConsW ws hs ws.length := fun k hk => cn k (by omega)
    have okw := cons_all cn'
    wtm_at "s"
    refine lc_lainG (N := .line 41) [] (fun _ z => by cases z) (s2.seq hb) (dpa_same s2 hxs) (by omega) (fun cc w H' R hw' sm hc' hR => ?_) (fun _ => rfl) (fun lD lain H3 nD s3 dD la => ?_)
    · wtm_at "s"
      exact ⟨_, _, rfl, .line 41, w.1, w.2, .tup (T.v_LINE H') (.cons (.str _) (.cons (.int _) .nil)), dp_of_pair hc', ⟨by decide, by decide⟩, okw w hw', fun p ns H'' np s' hp ti => hR p ns H'' np s' hp ti.srt ti.mem⟩
    wtm_at "s"
    have s23 := s2.trans s3
    refine ⟨_, _, rfl, lain, hs, meetW (.line 41) ws, dp_same (hid_same _ _) dD, dp_same s23 hh, by rw [la.1]; omega, fun l hl => by have := la.small (N := .line 41) ⟨by decide, by decide⟩ okw l hl; omega, fun i j hi hj => la.meet hi hj, ?_⟩
    rw [la.1]
    refine ⟨fun z => absurd eq' z, fun _ nob H4 s4 => ?_, fun i j _ z p H4 np s4 ep => ?_⟩
    · wtm_at "s"
      refine ⟨_, rfl, c, hs, rfl, (s23.trans s4).seq hc, by omega, fun hn H5 s5 => q.tell0 eq' pos cn' nob hn H5 (s23.trans (s4.trans s5)), fun x y hn p H5 np s5 e5 => q.tell1 eq' pos cn' nob x y hn p H5 ((s23.trans s4).free np) (s23.trans (s4.trans s5)) e5⟩
    · refine k_c ?_
      refine k_notNr ?_
      refine ⟨_, rfl, iteT ?_⟩
      refine k_raiseO (f := Str.ofString "place") (v := .non) (fun R h => ?_) (fun d nd => q.hues eq' pos cn' i j z.1 H4 d (s23.trans s4) nd)
      wtm_at "s"; exact h
abbrev sp_next_way (K : PySem.W.Frag) (A : Ad) : Sp := fun vs H Q E => ∃ v0 v1, vs = [v0, v1] ∧ pr_next_way K A v0 v1 H Q E
theorem ok_next_way (T : Txt K mg A) : FnOk P w K mg base (L2.CX P w) 3 A.a_next_way A.d_next_way ["ways", "hues"] (sp_next_way K A) := by
  refine T.F_next_way.okX sc_next_way (fun vs H Q E h => by obtain ⟨v0, v1, rfl, _⟩ := h; rfl) (fun cdv A0 outer s H vs Q E hr h => ?_)
  obtain ⟨v0, v1, rfl, h⟩ := h
  exact ⟨t_next_way K A E, (pss_cons (ps_if (PW.pt (pw_or (pt_cmpR op_ne (pe_callB q_len (by rfl) T.z_len (by decide +kernel) (pa_cons (pv 1) pa_nil)) (pe_callB q_len (by rfl) T.z_len (by decide +kernel) (pa_cons (pv 0) pa_nil)) (nomark _)) (pw_or1 (pt_cmpR op_gt (pe_callB q_len (by rfl) T.z_len (by decide +kernel) (pa_cons (pe_lc (own := [("hue", 3)]) (by rfl) sc_next_way.nd (pi_list (pv 1)) (blkOk_by (own := [("hue", 3)]) (N := ["ways", "hues", "k", "hue", "way"]) (sc := defScope s_next_way) (by decide +kernel)) (fun _ _ _ _ _ => (pg_name (i := 3) sc_next_way.nd rfl (Or.inl rfl))) (fun _ _ _ _ _ => (pts_one (pt_cmpR op_lt (pv 3) pe_int (nomark _)))) (fun _ _ _ _ _ => (pv 3))) pa_nil)) pe_int (nomark _))))) (pss_one (ps_raise rfl (takes_of rfl rfl rfl rfl) (pmk_oex T.o_NoHues T.in_NoHues T.ti_NoHues (ok_init_NoHues T) (hr.mono (by decide)) T.bi_NoHues .nil pass0 (by rfl) T.k_NoHues (pa_cons pe_non pa_nil)))) pss_nil)
      (pss_cons (ps_for (passes_of rfl) rfl (pi_range1 (by rfl) T.z_range (pa_cons (pe_callB q_len (by rfl) T.z_len (by decide +kernel) (pa_cons (pv 0) pa_nil)) pa_nil)) (pg_name (i := 2) sc_next_way.nd rfl (Or.inl rfl))
      (pss_one (ps_if (pt_cmpR (op_neD hr.units) (pe_ix ix_list (pv 0) (pv 2) (fun _ _ => rfl)) (pe_call (ok_way_for T) (hr.mono (by decide)) (by rfl) T.g_way_for T.F_way_for.kp T.b_way_for .nil pass0 (pa_cons (pe_slice sl_list (pv 1) po_none (po_some (pv 2))) pa_nil)) (nomark _)) (pss_one (ps_raise rfl (takes_of rfl rfl rfl rfl) (pmk_oex T.o_NoWay T.in_NoWay T.ti_NoWay (ok_init_NoWay T) (hr.mono (by decide)) T.bi_NoWay .nil pass0 (by rfl) T.k_NoWay (pa_cons (pv 2) pa_nil)))) pss_nil)))
      (pss_cons (ps_if (pt_cmpR op_notN (pe_call (ok_first_clash T) (hr.mono (by decide)) (by rfl) T.g_first_clash T.F_first_clash.kp T.b_first_clash .nil pass0 (pa_cons (pe_lc (own := [("way", 4)]) (by rfl) sc_next_way.nd (pi_list (pv 0)) (blkOk_by (own := [("way", 4)]) (N := ["ways", "hues", "k", "hue", "way"]) (sc := defScope s_next_way) (by decide +kernel)) (fun _ _ _ _ _ => (pg_name (i := 4) sc_next_way.nd rfl (Or.inl rfl))) (fun _ _ _ _ _ => pts_nil) (fun _ _ _ _ _ => (pe_call (ok_ties_on T) (hr.mono (by decide)) (by rfl) T.g_ties_on T.F_ties_on.kp T.b_ties_on .nil pass0 (pa_cons (pe_glob (v := .ref A.g_LINE) (by rfl) T.c_LINE rfl) (pa_cons (pv 4) pa_nil))))) (pa_cons (pv 1) pa_nil))) pe_non (nomark _)) (pss_one (ps_raise rfl (takes_of rfl rfl rfl rfl) (pmk_oex T.o_NoHues T.in_NoHues T.ti_NoHues (ok_init_NoHues T) (hr.mono (by decide)) T.bi_NoHues .nil pass0 (by rfl) T.k_NoHues (pa_cons pe_non pa_nil)))) pss_nil)
      (pss_one (ps_ret (pe_call (ok_way_for T) (hr.mono (by decide)) (by rfl) T.g_way_for T.F_way_for.kp T.b_way_for .nil pass0 (pa_cons (pv 1) pa_nil))))))), pure_next_way T h⟩


def pr_law_mix (K : PySem.W.Frag) (v0 v1 : V) (H : Hp) (Q : VK) (_ : XK) : Prop := ∃ x k : Int, v0 = .int x ∧ v1 = .int k ∧ 0 ≤ x ∧ x < 2147483629 ∧ 0 ≤ k ∧ k < 10000000 ∧ ∀ r, 0 ≤ r → r < 2147483587 → Q (.int r) H
def t_law_mix (K : PySem.W.Frag) : TS :=
  (tSeq (tAsg (tOp xMod (tOp xMul (tOp xAdd (tOp xAdd (tOp xMul (tVar 0) (tVar 0)) (tOp xMul (tVar 1) (tVar 0))) (tOp xMul (tOp xMul (tC (.int 7)) (tVar 1)) (tVar 1))) (tC (.int 1103515245))) (tC (.int 2147483629))) (gName 2))
    (tRet (tOp xMod (tOp xMul (tVar 2) (tVar 2)) (tC (.int 2147483587)))))
theorem pure_law_mix {v0 v1 : V} {H : Hp} {Q : VK} {E : XK} (h : pr_law_mix K v0 v1 H Q E) : t_law_mix K ⟨fun _ H' => Q .non H', Q, fun _ _ => False, fun _ _ => False⟩ [some v0, some v1, none] H := by
  obtain ⟨x, k, rfl, rfl, x0, x1, k0, k1, q⟩ := h
  unfold t_law_mix
  wtm_at "s"
  exact q _ (Int.emod_nonneg _ (by decide)) (Int.emod_lt_of_pos _ (by decide))
abbrev sp_law_mix (K : PySem.W.Frag) : Sp := fun vs H Q E => ∃ v0 v1, vs = [v0, v1] ∧ pr_law_mix K v0 v1 H Q E
theorem ok_law_mix (T : Txt K mg A) : FnOk P w K mg base CX0 1 A.a_law_mix A.d_law_mix ["_law_number", "_law_k"] (sp_law_mix K) := by
  refine T.F_law_mix.ok sc_law_mix (fun vs H Q E h => by obtain ⟨v0, v1, rfl, _⟩ := h; rfl) (fun cdv A0 outer s H vs Q E hr h => ?_)
  obtain ⟨v0, v1, rfl, h⟩ := h
  exact ⟨t_law_mix K, (pss_cons (ps_set (i := 2) sc_law_mix.nd rfl (Or.inl rfl) (pe_op op_mod (pe_op op_mul (pe_op op_add (pe_op op_add (pe_op op_mul (pv 0) (pv 0)) (pe_op op_mul (pv 1) (pv 0))) (pe_op op_mul (pe_op op_mul pe_int (pv 1)) (pv 1))) pe_int) pe_int))
      (pss_one (ps_ret (pe_op op_mod (pe_op op_mul (pv 2) (pv 2)) pe_int)))), pure_law_mix h⟩
def pr_law_cell_at (K : PySem.W.Frag) (v0 v1 : V) (H : Hp) (Q : VK) (_ : XK) : Prop := ∃ (a : Addr) (ns : List Int) (k : Int), v0 = .ref a ∧ v1 = .int k ∧ SqL K H a (ns.map V.int) ∧ 0 ≤ k ∧ ∀ x, Q (.int x) H
def t_law_cell_at (K : PySem.W.Frag) : TS :=
  (tSeq (tIfS (tTest (tOp xLt (tVar 1) (tCB (rLen K) (tCons (tVar 0) tNil)))) (tRet (tOp (rIxL K) (tVar 0) (tVar 1))) tNext)
    (tRet (tC (.int 0))))
theorem pure_law_cell_at {v0 v1 : V} {H : Hp} {Q : VK} {E : XK} (h : pr_law_cell_at K v0 v1 H Q E) : t_law_cell_at K ⟨fun _ H' => Q .non H', Q, fun _ _ => False, fun _ _ => False⟩ [some v0, some v1] H := by
  obtain ⟨a, ns, k, rfl, rfl, ha, k0, q⟩ := h
  unfold t_law_cell_at
  wtm_at "s"
  refine k_it (fun c => ?_) (fun c => ?_)
  · wtm_at "s"
    refine k_ixI ha k0 c ?_
    exact q _
  · wtm_at "s"
    exact q _
abbrev sp_law_cell_at (K : PySem.W.Frag) : Sp := fun vs H Q E => ∃ v0 v1, vs = [v0, v1] ∧ pr_law_cell_at K v0 v1 H Q E
theorem ok_law_cell_at (T : Txt K mg A) : FnOk P w K mg base CX0 1 A.a_law_cell_at A.d_law_cell_at ["_law_script", "_law_k"] (sp_law_cell_at K) := by
  refine T.F_law_cell_at.ok sc_law_cell_at (fun vs H Q E h => by obtain ⟨v0, v1, rfl, _⟩ := h; rfl) (fun cdv A0 outer s H vs Q E hr h => ?_)
  obtain ⟨v0, v1, rfl, h⟩ := h
  exact ⟨t_law_cell_at K, (pss_cons (ps_if (pt_cmpR op_lt (pv 1) (pe_callB q_len (by rfl) T.z_len (by decide +kernel) (pa_cons (pv 0) pa_nil)) (nomark _)) (pss_one (ps_ret (pe_ix ix_list (pv 0) (pv 1) (fun _ _ => rfl)))) pss_nil)
      (pss_one (ps_ret pe_int))), pure_law_cell_at h⟩
def pr_law_left (K : PySem.W.Frag) (v0 v1 : V) (H : Hp) (Q : VK) (_ : XK) : Prop := ∃ (a : Addr) (ns : List Int) (k : Int), v0 = .ref a ∧ v1 = .int k ∧ SqL K H a (ns.map V.int) ∧ 0 ≤ k ∧ ∀ p H', H p = none → Same H H' → Le H' p 0 → Q (.ref p) H'
def t_law_left (K : PySem.W.Frag) : TS :=
  (tSeq (tAsg (tCall (sp_law_cell_at K) [] E0 (tCons (tVar 0) (tCons (tVar 1) tNil))) (gName 2))
    (tSeq (tIfS (tTest (tOp xLt (tVar 2) (tOp xPow (tC (.int 10)) (tC (.int 18))))) (tRet (tLst (tCons (tOp xMod (tVar 2) (tC (.int 2147483629))) (tCons (tC (.int 0)) (tCons (tC (.int 0)) tNil))))) tNext)
    (tRet (tLst (tCons (tOp xSub (tVar 2) (tOp xPow (tC (.int 10)) (tC (.int 18)))) (tCons (tC (.int 1)) (tCons (tC (.int 0)) tNil)))))))
theorem pure_law_left {v0 v1 : V} {H : Hp} {Q : VK} {E : XK} (h : pr_law_left K v0 v1 H Q E) : t_law_left K ⟨fun _ H' => Q .non H', Q, fun _ _ => False, fun _ _ => False⟩ [some v0, some v1, none] H := by
  obtain ⟨a, ns, k, rfl, rfl, ha, k0, q⟩ := h
  unfold t_law_left
  wtm_at "s"
  refine ⟨_, _, rfl, a, ns, k, rfl, rfl, ha, k0, fun x => ?_⟩
  wtm_at "s"
  refine k_it (fun c => ?_) (fun c => ?_)
  · wtm_at "s"
    refine ⟨sz (by simp), fun p np => ?_⟩
    exact q p _ np (same_new np) ⟨⟨_, _, upd_same, fun _ => ⟨Int.emod_nonneg _ (by decide), Int.emod_lt_of_pos _ (by decide)⟩⟩, by decide⟩
  · wtm_at "s"
    refine ⟨sz (by simp), fun p np => ?_⟩
    exact q p _ np (same_new np) ⟨⟨_, _, upd_same, fun z => absurd z (by decide)⟩, by decide⟩
abbrev sp_law_left (K : PySem.W.Frag) : Sp := fun vs H Q E => ∃ v0 v1, vs = [v0, v1] ∧ pr_law_left K v0 v1 H Q E
theorem ok_law_left (T : Txt K mg A) : FnOk P w K mg base CX0 2 A.a_law_left A.d_law_left ["_law_script", "_law_k"] (sp_law_left K) := by
  refine T.F_law_left.ok sc_law_left (fun vs H Q E h => by obtain ⟨v0, v1, rfl, _⟩ := h; rfl) (fun cdv A0 outer s H vs Q E hr h => ?_)
  obtain ⟨v0, v1, rfl, h⟩ := h
  exact ⟨t_law_left K, (pss_cons (ps_set (i := 2) sc_law_left.nd rfl (Or.inl rfl) (pe_call (ok_law_cell_at T) (hr.mono (by decide)) (by rfl) T.g_law_cell_at T.F_law_cell_at.kp T.b_law_cell_at .nil pass0 (pa_cons (pv 0) (pa_cons (pv 1) pa_nil))))
      (pss_cons (ps_if (pt_cmpR op_lt (pv 2) (pe_op op_pow pe_int pe_int) (nomark _)) (pss_one (ps_ret (pe_lst (pa_cons (pe_op op_mod (pv 2) pe_int) (pa_cons pe_int (pa_cons pe_int pa_nil)))))) pss_nil)
      (pss_one (ps_ret (pe_lst (pa_cons (pe_op op_sub (pv 2) (pe_op op_pow pe_int pe_int)) (pa_cons pe_int (pa_cons pe_int pa_nil)))))))), pure_law_left h⟩
def pr_law_draw (K : PySem.W.Frag) (v0 v1 : V) (H : Hp) (Q : VK) (_ : XK) : Prop := ∃ (pu : Addr) (k m : Int), v0 = .ref pu ∧ v1 = .int m ∧ Le H pu k ∧ k < 1000000 ∧ 0 < m ∧ m < 2 ^ 200 ∧ ∀ r H', 0 ≤ r → r < m → Le H' pu (k + 1) → Same (hid [pu] H) (hid [pu] H') → Q (.int r) H'
def t_law_draw (K : PySem.W.Frag) : TS :=
  (tSeq (tAsg (tOp xAdd (tOp (rIxL K) (tVar 0) (tC (.int 2))) (tC (.int 1))) (gSub (tVar 0) (tC (.int 2)) rSetL))
    (tSeq (tIfS (tTest (tOp rEq (tOp (rIxL K) (tVar 0) (tC (.int 1))) (tC (.int 0)))) (tSeq (tAsg (tCall (sp_law_mix K) [] E0 (tCons (tOp (rIxL K) (tVar 0) (tC (.int 0))) (tCons (tOp (rIxL K) (tVar 0) (tC (.int 2))) tNil))) (gName 2))
    (tSeq (tIfS (tTest (tOp xGt (tVar 1) (tOp xPow (tC (.int 10)) (tC (.int 9))))) (tRet (tOp xMod (tOp xMul (tVar 2) (tOp xAdd (tOp xPow (tCall (sp_law_mix K) [] E0 (tCons (tOp (rIxL K) (tVar 0) (tC (.int 0))) (tCons (tOp xAdd (tOp (rIxL K) (tVar 0) (tC (.int 2))) (tC (.int 500))) tNil))) (tC (.int 3))) (tC (.int 1)))) (tVar 1))) tNext)
    (tRet (tOp xMod (tOp xMod (tOp xMul (tVar 2) (tOp xAdd (tVar 2) (tC (.int 2)))) (tC (.int 2147483579))) (tVar 1))))) tNext)
    (tSeq (tAsg (tOp xMod (tOp (rIxL K) (tVar 0) (tC (.int 0))) (tVar 1)) (gName 3))
    (tSeq (tAsg (tOp xDivW (tOp (rIxL K) (tVar 0) (tC (.int 0))) (tVar 1)) (gSub (tVar 0) (tC (.int 0)) rSetL))
    (tRet (tVar 3))))))
theorem pure_law_draw {v0 v1 : V} {H : Hp} {Q : VK} {E : XK} (h : pr_law_draw K v0 v1 H Q E) : t_law_draw K ⟨fun _ H' => Q .non H', Q, fun _ _ => False, fun _ _ => False⟩ [some v0, some v1, none, none] H := by
  obtain ⟨pu, k, m, rfl, rfl, hL, k1, m0, m1, q⟩ := h
  obtain ⟨⟨x, f, hp, hx⟩, k0⟩ := hL
  unfold t_law_draw
  wtm_at "s"
  refine k_ixL (sl hp) rfl ?_
  wtm_at "s"
  refine k_setL hp (j := 2) rfl ?_
  have e1 : upd H pu (.lst [.int x, .int f, .int (k + 1)]) pu = some (.lst [.int x, .int f, .int (k + 1)]) := upd_same
  have S1 : Same (hid [pu] H) (hid [pu] (upd H pu (.lst [.int x, .int f, .int (k + 1)]))) := same_hid_upd (Same.refl _) (by simp)
  rw [show [V.int x, V.int f, V.int k].set 2 (V.int (k + 1)) = [.int x, .int f, .int (k + 1)] from rfl]
  generalize upd H pu (.lst [.int x, .int f, .int (k + 1)]) = H1 at e1 S1 ⊢
  wtm_at "s"
  refine k_ixL (sl e1) rfl ?_
  wtm_at "s"
  refine k_it (fun c => ?_) (fun c => ?_)
  · obtain ⟨x0, x1⟩ := hx c
    have L1 : Le H1 pu (k + 1) := ⟨⟨x, f, e1, hx⟩, by omega⟩
    wtm_at "s"
    refine k_ixL (sl e1) rfl ?_
    wtm_at "s"
    refine k_ixL (sl e1) rfl ?_
    wtm_at "s"
    refine ⟨_, _, rfl, x, k + 1, rfl, rfl, x0, x1, by omega, by omega, fun r r0 r1 => ?_⟩
    wtm_at "s"
    refine k_it (fun c2 => ?_) (fun c2 => ?_)
    · wtm_at "s"
      refine k_ixL (sl e1) rfl ?_
      wtm_at "s"
      refine k_ixL (sl e1) rfl ?_
      wtm_at "s"
      refine ⟨_, _, rfl, x, k + 1 + 500, rfl, rfl, x0, x1, by omega, by omega, fun r2 r20 r21 => ?_⟩
      wtm_at "s"
      refine k_pow ⟨by decide, by decide, by omega⟩ ?_
      wtm_at "s"
      exact q _ _ (Int.emod_nonneg _ (by omega)) (Int.emod_lt_of_pos _ m0) L1 S1
    · wtm_at "s"
      exact q _ _ (Int.emod_nonneg _ (by omega)) (Int.emod_lt_of_pos _ m0) L1 S1
  · wtm_at "s"
    refine k_ixL (sl e1) rfl ?_
    wtm_at "s"
    refine k_ixL (sl e1) rfl ?_
    wtm_at "s"
    refine k_divW (wide_div m0 (b := 201) (by omega) (by decide) (by decide)) ?_
    wtm_at "s"
    refine k_setL e1 (j := 0) rfl ?_
    wtm_at "s"
    exact q _ _ (Int.emod_nonneg _ (by omega)) (Int.emod_lt_of_pos _ m0) ⟨⟨x / m, f, upd_same, fun z => absurd z c⟩, by omega⟩ (same_hid_upd S1 (by simp))
abbrev sp_law_draw (K : PySem.W.Frag) : Sp := fun vs H Q E => ∃ v0 v1, vs = [v0, v1] ∧ pr_law_draw K v0 v1 H Q E
theorem ok_law_draw (T : Txt K mg A) : FnOk P w K mg base CX0 2 A.a_law_draw A.d_law_draw ["_law_left_here", "_law_base"] (sp_law_draw K) := by
  refine T.F_law_draw.ok sc_law_draw (fun vs H Q E h => by obtain ⟨v0, v1, rfl, _⟩ := h; rfl) (fun cdv A0 outer s H vs Q E hr h => ?_)
  obtain ⟨v0, v1, rfl, h⟩ := h
  exact ⟨t_law_draw K, (pss_cons (ps_asg (pe_op op_add (pe_ix ix_list (pv 0) pe_int (fun _ _ => rfl)) pe_int) (pg_sub (pv 0) pe_int set_list))
      (pss_cons (ps_if (pt_cmpR op_eq (pe_ix ix_list (pv 0) pe_int (fun _ _ => rfl)) pe_int (nomark _)) (pss_cons (ps_set (i := 2) sc_law_draw.nd rfl (Or.inl rfl) (pe_call (ok_law_mix T) (hr.mono (by decide)) (by rfl) T.g_law_mix T.F_law_mix.kp T.b_law_mix .nil pass0 (pa_cons (pe_ix ix_list (pv 0) pe_int (fun _ _ => rfl)) (pa_cons (pe_ix ix_list (pv 0) pe_int (fun _ _ => rfl)) pa_nil))))
      (pss_cons (ps_if (pt_cmpR op_gt (pv 1) (pe_op op_pow pe_int pe_int) (nomark _)) (pss_one (ps_ret (pe_op op_mod (pe_op op_mul (pv 2) (pe_op op_add (pe_op op_pow (pe_call (ok_law_mix T) (hr.mono (by decide)) (by rfl) T.g_law_mix T.F_law_mix.kp T.b_law_mix .nil pass0 (pa_cons (pe_ix ix_list (pv 0) pe_int (fun _ _ => rfl)) (pa_cons (pe_op op_add (pe_ix ix_list (pv 0) pe_int (fun _ _ => rfl)) pe_int) pa_nil))) pe_int) pe_int)) (pv 1)))) pss_nil)
      (pss_one (ps_ret (pe_op op_mod (pe_op op_mod (pe_op op_mul (pv 2) (pe_op op_add (pv 2) pe_int)) pe_int) (pv 1)))))) pss_nil)
      (pss_cons (ps_set (i := 3) sc_law_draw.nd rfl (Or.inl rfl) (pe_op op_mod (pe_ix ix_list (pv 0) pe_int (fun _ _ => rfl)) (pv 1)))
      (pss_cons (ps_asg (pe_op op_fdivW (pe_ix ix_list (pv 0) pe_int (fun _ _ => rfl)) (pv 1)) (pg_sub (pv 0) pe_int set_list))
      (pss_one (ps_ret (pv 3))))))), pure_law_draw h⟩


def meetB (w v : Int × Int) : Bool := decide (max (min w.1 w.2) (min v.1 v.2) < min (max w.1 w.2) (max v.1 v.2))
theorem meetB_iff {w v : Int × Int} : meetB w v = true ↔ ∃ t, OnTie (.line 41) w.1 w.2 t ∧ OnTie (.line 41) v.1 v.2 t := by
  unfold meetB
  rw [decide_eq_true_eq]
  constructor
  · intro h
    exact ⟨max (min w.1 w.2) (min v.1 v.2), by show min w.1 w.2 ≤ _ ∧ _ < max w.1 w.2; omega, by show min v.1 v.2 ≤ _ ∧ _ < max v.1 v.2; omega⟩
  · rintro ⟨t, h1, h2⟩
    have h1' : min w.1 w.2 ≤ t ∧ t < max w.1 w.2 := h1
    have h2' : min v.1 v.2 ≤ t ∧ t < max v.1 v.2 := h2
    omega
def pr_law_meet (K : PySem.W.Frag) (v0 v1 : V) (H : Hp) (Q : VK) (_ : XK) : Prop := ∃ w v, Dp K H v0 (dPair w) ∧ Dp K H v1 (dPair v) ∧ Q (.bl (meetB w v)) H
def t_law_meet (K : PySem.W.Frag) : TS :=
  (tRet (tOp xLt (tCB rMax2 (tCons (tCB (rMinT K) (tCons (tVar 0) tNil)) (tCons (tCB (rMinT K) (tCons (tVar 1) tNil)) tNil))) (tCB rMin2 (tCons (tCB (rMaxT K) (tCons (tVar 0) tNil)) (tCons (tCB (rMaxT K) (tCons (tVar 1) tNil)) tNil)))))
theorem pure_law_meet {v0 v1 : V} {H : Hp} {Q : VK} {E : XK} (h : pr_law_meet K v0 v1 H Q E) : t_law_meet K ⟨fun _ H' => Q .non H', Q, fun _ _ => False, fun _ _ => False⟩ [some v0, some v1] H := by
  obtain ⟨w, v, hw, hv, q⟩ := h
  obtain ⟨p, rfl, hp⟩ := dp_pair hw
  obtain ⟨p', rfl, hp'⟩ := dp_pair hv
  unfold t_law_meet
  wtm_at "s"
  have e : decide ((if min v.1 v.2 > min w.1 w.2 then min v.1 v.2 else min w.1 w.2) < (if max v.1 v.2 < max w.1 w.2 then max v.1 v.2 else max w.1 w.2)) = meetB w v := by
    unfold meetB
    refine decide_eq_decide.mpr ?_
    split <;> split <;> omega
  rw [e]
  exact q
abbrev sp_law_meet (K : PySem.W.Frag) : Sp := fun vs H Q E => ∃ v0 v1, vs = [v0, v1] ∧ pr_law_meet K v0 v1 H Q E
theorem ok_law_meet (T : Txt K mg A) : FnOk P w K mg base CX0 1 A.a_law_meet A.d_law_meet ["_law_one", "_law_other"] (sp_law_meet K) := by
  refine T.F_law_meet.ok sc_law_meet (fun vs H Q E h => by obtain ⟨v0, v1, rfl, _⟩ := h; rfl) (fun cdv A0 outer s H vs Q E hr h => ?_)
  obtain ⟨v0, v1, rfl, h⟩ := h
  exact ⟨t_law_meet K, (pss_one (ps_ret (pe_cmpR op_lt (pe_callB (q_max2 (by rfl)) (by rfl) T.z_max (by decide +kernel) (pa_cons (pe_callB (q_minT (by rfl) hr.units) (by rfl) T.z_min (by decide +kernel) (pa_cons (pv 0) pa_nil)) (pa_cons (pe_callB (q_minT (by rfl) hr.units) (by rfl) T.z_min (by decide +kernel) (pa_cons (pv 1) pa_nil)) pa_nil))) (pe_callB (q_min2 (by rfl)) (by rfl) T.z_min (by decide +kernel) (pa_cons (pe_callB (q_maxT (by rfl) hr.units) (by rfl) T.z_max (by decide +kernel) (pa_cons (pv 0) pa_nil)) (pa_cons (pe_callB (q_maxT (by rfl) hr.units) (by rfl) T.z_max (by decide +kernel) (pa_cons (pv 1) pa_nil)) pa_nil))) (nomark _)))), pure_law_meet h⟩
def Game (ws : List (Int × Int)) (hs : List Int) : Prop := hs.length = ws.length ∧ (∀ h ∈ hs, 0 ≤ h) ∧ ConsW ws hs ws.length ∧ ∀ i j, ¬ BadM (meetW (.line 41) ws) ws.length hs i j
theorem cons_more {ws : List (Int × Int)} {hs os : List Int} {vs : List (Int × Int)} {n : Nat} (h : ConsW ws hs n) (hn : n ≤ ws.length) (hn2 : n ≤ hs.length) : ConsW (ws ++ vs) (hs ++ os) n := fun k hk => by
  rw [List.getElem?_append_left (by omega), List.take_append_of_le_length (by omega)]
  exact h k hk
theorem meetW_app {ws vs : List (Int × Int)} {i j : Nat} (hi : i < ws.length) (hj : j < ws.length) : meetW (.line 41) (ws ++ vs) i j ↔ meetW (.line 41) ws i j := by
  unfold meetW
  rw [List.getElem?_append_left hi, List.getElem?_append_left hj]
theorem getD_app' {us vs : List Int} {j : Nat} (h : j < us.length) : (us ++ vs).getD j 0 = us.getD j 0 := by rw [List.getD_eq_getElem?_getD, List.getD_eq_getElem?_getD, List.getElem?_append_left h]
theorem Game.more {ws : List (Int × Int)} {hs : List Int} {w : Int × Int} {h : Int} (g : Game ws hs) (hw : wayFor hs = some w) (h0 : 0 ≤ h) (hm : ∀ j, j < ws.length → meetB (ws.getD j (0, 0)) w = true → hs.getD j 0 ≠ h) : Game (ws ++ [w]) (hs ++ [h]) := by
  obtain ⟨g1, g2, g3, g4⟩ := g
  refine ⟨by simp [g1], fun x hx => ?_, fun k hk => ?_, fun i j z => ?_⟩
  · rcases List.mem_append.mp hx with hx | hx
    · exact g2 x hx
    · rw [List.mem_singleton.mp hx]; exact h0
  · by_cases c : k < ws.length
    · exact cons_more g3 (Nat.le_refl _) (by omega) k c
    · have e : k = ws.length := by simp at hk; omega
      subst e
      rw [List.getElem?_append_right (Nat.le_refl _), ← g1, List.take_left, hw]; simp
  · obtain ⟨z1, z2, z3⟩ := z
    have lz : (ws ++ [w]).length = ws.length + 1 := by simp
    rw [lz] at z2
    have hlast : (hs ++ [h]).getD ws.length 0 = h := by rw [← g1, List.getD_eq_getElem?_getD, List.getElem?_append_right (Nat.le_refl _)]; simp
    by_cases cj : j < ws.length
    · refine g4 i j ⟨z1, cj, ?_⟩
      rw [getD_app' (by omega), getD_app' (by omega)] at z3
      by_cases cij : i = j
      · rw [if_pos cij] at z3 ⊢; exact z3
      · rw [if_neg cij] at z3 ⊢
        exact ⟨z3.1, (meetW_app (by omega) cj).mp z3.2⟩
    · have e : j = ws.length := by omega
      subst e
      by_cases cij : i = ws.length
      · rw [if_pos cij, cij, hlast] at z3; omega
      · rw [if_neg cij, hlast, getD_app' (by omega)] at z3
        obtain ⟨z4, w1, w2, t, m1, m2, m3, m4⟩ := z3
        rw [List.getElem?_append_left (by omega)] at m1
        rw [List.getElem?_append_right (Nat.le_refl _)] at m2
        simp at m2
        subst m2
        refine hm i (by omega) (meetB_iff.mpr ⟨t, ?_, m4⟩) z4
        rw [getD_of m1]; exact m3
theorem next_told {A : Ad} {ws : List (Int × Int)} {hs : List Int} {H : Hp} {Q : VK} {E : XK} (g : Game ws hs) (q0 : wayFor hs = none → ∀ H', Same H H' → Q .non H') (q1 : ∀ x y, wayFor hs = some (x, y) → ∀ p H', H p = none → Same H H' → H' p = some (.tup [.int x, .int y]) → Q (.ref p) H') : NextIs A ws hs H Q E := by
  obtain ⟨g1, g2, g3, g4⟩ := g
  exact ⟨fun z => by
    rcases z with z | ⟨h, z1, z2⟩
    · exact absurd g1 z
    · exact absurd (g2 h z1) (by omega), fun _ _ k hk _ ne => absurd (g3 k hk) ne, fun _ _ _ i j z => absurd z (g4 i j), fun _ _ _ _ hn => q0 hn, fun _ _ _ _ x y hn => q1 x y hn⟩
theorem filt_one (l : List Nat) (nd : l.Nodup) (d : Int) : l.length ≤ (l.filter fun k : Nat => !decide ((k : Int) = d)).length + 1 := by
  induction l with
  | nil => simp
  | cons x r ih =>
    obtain ⟨h1, h2⟩ := List.nodup_cons.mp nd
    by_cases c : (x : Int) = d
    · have : r.filter (fun k : Nat => !decide ((k : Int) = d)) = r := List.filter_eq_self.mpr fun y hy => by
        have ne : (y : Int) ≠ d := fun e => by
          have e2 : y = x := by omega
          exact h1 (e2 ▸ hy)
        simp [ne]
      rw [List.filter_cons_of_neg (by simp [c]), this]; simp
    · rw [List.filter_cons_of_pos (by simp [c]), List.length_cons, List.length_cons]
      have := ih h2
      omega
theorem filt_many : ∀ (D : List Int) (l : List Nat), l.Nodup → l.length ≤ (l.filter fun k : Nat => !decide ((k : Int) ∈ D)).length + D.length
  | [], l, _ => by rw [List.filter_eq_self.mpr (fun _ _ => by simp)]; simp
  | d :: D, l, nd => by
    have ih := filt_many D l nd
    have := filt_one (l.filter fun k : Nat => !decide ((k : Int) ∈ D)) (nd.filter _) d
    rw [List.filter_filter] at this
    have e : (l.filter fun k : Nat => !decide ((k : Int) ∈ d :: D)) = l.filter fun k : Nat => (!decide ((k : Int) = d)) && !decide ((k : Int) ∈ D) := by
      refine List.filter_congr fun k _ => ?_
      by_cases c1 : (k : Int) = d <;> by_cases c2 : (k : Int) ∈ D <;> simp [c1, c2]
    rw [e, List.length_cons]
    omega
theorem free_len {hs ts : List Int} (h : unl hs < 4) (ht : ∀ t ∈ ts, t ∈ hs) : 6 ≤ (keepI 9 fun k : Nat => !decide ((k : Int) ∈ ts)).length := by
  unfold keepI
  rw [List.length_map]
  have h1 := filt_many (met hs) (List.range 9) List.nodup_range
  rw [met_len, List.length_range] at h1
  have h2 : ((List.range 9).filter fun k : Nat => !decide ((k : Int) ∈ met hs)).length ≤ ((List.range 9).filter fun k : Nat => !decide ((k : Int) ∈ ts)).length := by
    rw [← List.countP_eq_length_filter, ← List.countP_eq_length_filter]
    refine List.countP_mono_left fun k _ hk => ?_
    simp only [Bool.not_eq_true', decide_eq_false_iff_not] at hk ⊢
    exact fun z => hk (in_met (ht _ z))
  omega
/-! ### the forcer wins: at most fourteen ways, two to a tie -/
theorem findSome_at {α : Type} {f : Nat → Option α} {x : α} : ∀ {n : Nat}, (List.range n).findSome? f = some x → ∃ i, i < n ∧ f i = some x ∧ ∀ j, j < i → f j = none
  | 0, h => by simp at h
  | n + 1, h => by
    rw [List.range_succ, List.findSome?_append] at h
    cases hn : (List.range n).findSome? f with
    | some y =>
      rw [hn] at h
      obtain ⟨i, h1, h2, h3⟩ := findSome_at hn
      refine ⟨i, by omega, ?_, h3⟩
      rw [h2]; exact h
    | none =>
      rw [hn] at h
      refine ⟨n, by omega, ?_, fun j hj => List.findSome?_eq_none_iff.mp hn j (List.mem_range.mpr hj)⟩
      simpa using h
theorem getD_take {hs : List Int} {k i : Nat} (h : i < k) : (hs.take k).getD i 0 = hs.getD i 0 := by
  rw [List.getD_eq_getElem?_getD, List.getD_eq_getElem?_getD, List.getElem?_take, if_pos h]
theorem fa_take {hs : List Int} {k m : Nat} (h : m ≤ k) : fa (hs.take k) m = fa hs m := by
  unfold fa
  refine List.filter_congr fun i hi => ?_
  have := List.mem_range.mp hi
  rw [getD_take (by omega), getD_take (by omega)]
theorem fourAt_take {hs : List Int} {k m : Nat} (h : m ≤ k) : fourAt (hs.take k) m = fourAt hs m := by
  unfold fourAt; rw [fa_take h]
theorem four_take {hs : List Int} {al : List Nat} {m : Nat} (h : fourAlike hs = some (al, m)) (k : Nat) : fourAlike (hs.take k) = if m ≤ k then some (al, m) else none := by
  unfold fourAlike at h
  obtain ⟨i, h1, h2, h3⟩ := findSome_at h
  have hm : m = 4 + i := by
    unfold fourAt at h2
    split at h2
    · cases h2; rfl
    · cases h2
  subst hm
  unfold fourAlike
  by_cases c : 4 + i ≤ k
  · rw [if_pos c]
    exact findSome_first (i := i) (fun j hj => by rw [fourAt_take (by omega)]; exact h3 j hj) (by rw [List.length_take]; omega) (by rw [fourAt_take c]; exact h2)
  · rw [if_neg c]
    refine List.findSome?_eq_none_iff.mpr fun j hj => ?_
    have := List.mem_range.mp hj
    rw [List.length_take] at this
    rw [fourAt_take (by omega)]
    exact h3 j (by omega)
theorem four_take0 {hs : List Int} (h : fourAlike hs = none) (k : Nat) : fourAlike (hs.take k) = none := by
  unfold fourAlike at h ⊢
  rw [List.findSome?_eq_none_iff] at h ⊢
  intro j hj
  have := List.mem_range.mp hj
  rw [List.length_take] at this
  rw [fourAt_take (by omega)]
  exact h j (List.mem_range.mpr (by omega))
theorem four_hue {hs : List Int} {al : List Nat} {m : Nat} (h : fourAlike hs = some (al, m)) : ∀ k ∈ al, hs.getD k 0 = hs.getD (m - 1) 0 := by
  unfold fourAlike at h
  obtain ⟨i, _, e, _⟩ := findSome_at h
  unfold fourAt at e
  split at e
  · cases e
    intro k hk
    exact of_decide_eq_true (List.mem_filter.mp hk).2
  · cases e
theorem unl_four {hs : List Int} {p q r s : Int} (hp : p ∈ hs) (hq : q ∈ hs) (hr : r ∈ hs) (h4 : s ∈ hs) (pq : p ≠ q) (pr : p ≠ r) (ps : p ≠ s) (qr : q ≠ r) (qs : q ≠ s) (rs : r ≠ s) : 4 ≤ unl hs := by
  have h1 := sum_count (D := met hs) (l := [p, q, r, s]) fun x hx => by
    simp only [List.mem_cons, List.not_mem_nil, or_false] at hx
    rcases hx with rfl | rfl | rfl | rfl <;> exact in_met ‹_›
  have nd : [p, q, r, s].Nodup := by simp [pq, pr, ps, qr, qs, rs]
  have h2 := sum_le (l := (met hs).map fun d => [p, q, r, s].count d) (b := 1) fun x hx => by
    obtain ⟨d, _, rfl⟩ := List.mem_map.mp hx
    exact List.nodup_iff_count.mp nd d
  rw [List.length_map, met_len] at h2
  simp only [List.length_cons, List.length_nil] at h1
  omega
theorem getD_mem {hs : List Int} {i : Nat} (h : i < hs.length) : hs.getD i 0 ∈ hs := by
  rw [getD_of (List.getElem?_eq_getElem h)]; exact List.getElem_mem h
theorem game_ne {ws : List (Int × Int)} {hs : List Int} (g : Game ws hs) {i j : Nat} {w v : Int × Int} (hij : i < j) (hj : j < ws.length) (hw : ws[i]? = some w) (hv : ws[j]? = some v) (t : Int) (h1 : min w.1 w.2 ≤ t) (h2 : t < max w.1 w.2) (h3 : min v.1 v.2 ≤ t) (h4 : t < max v.1 v.2) : hs.getD i 0 ≠ hs.getD j 0 := fun e => by
  refine g.2.2.2 i j ⟨by omega, hj, ?_⟩
  rw [if_neg (by omega)]
  exact ⟨e, w, v, t, hw, hv, ⟨h1, h2⟩, ⟨h3, h4⟩⟩
/-- the ways by the first four alike -/
theorem way_at {ws : List (Int × Int)} {hs : List Int} {n k : Nat} (c : ConsW ws hs n) (hk : k < n) (hl : k < ws.length) : ∃ w, ws[k]? = some w ∧ wayFor (hs.take k) = some w ∧ unl (hs.take k) < 4 := by
  have h1 := c k hk
  have h2 : ws[k]? = some ws[k] := List.getElem?_eq_getElem hl
  rw [h2] at h1
  exact ⟨_, h2, h1.symm, (way_isWay h1.symm).1⟩
theorem way_short {hs : List Int} {k : Nat} (h : unl (hs.take k) < 4) (hk : k ≤ hs.length) (hn : fourAlike ((hs.take 10).take k) = none) : wayFor (hs.take k) = some (4 * (k : Int) + 1, 4 * (k : Int) + 2) := by
  unfold wayFor
  rw [if_neg (by omega), List.take_take, Nat.min_comm, ← List.take_take, hn, List.length_take, Nat.min_eq_left hk]
theorem way_late {hs : List Int} {k a b c d m : Nat} (h : unl (hs.take k) < 4) (hf : fourAlike (hs.take 10) = some ([a, b, c, d], m)) (hk : m ≤ k) : wayFor (hs.take k) = wayBy (hs.take k) a b d m := by
  unfold wayFor
  rw [if_neg (by omega), List.take_take, Nat.min_comm, ← List.take_take, four_take hf, if_pos hk]
  rfl
theorem forced {ws : List (Int × Int)} {hs : List Int} (g : Game ws hs) (hu : unl hs < 4) : wayFor hs ≠ none := by
  intro hn
  have hn' := hn
  unfold wayFor at hn
  rw [if_neg (by omega)] at hn
  cases hf : fourAlike (hs.take 10) with
  | none => rw [hf] at hn; cases hn
  | some p =>
    obtain ⟨al, m⟩ := p
    rw [hf] at hn
    obtain ⟨m1, a, b, c, d, rfl, h1, h2, h3, h4⟩ := four_is hf
    have hh := four_hue hf
    rw [List.length_take] at m1
    replace hn : wayBy hs a b d m = none := hn
    unfold wayBy at hn
    have lm : m + 4 ≤ hs.length := by
      split at hn
      · cases hn
      split at hn
      · cases hn
      split at hn
      · split at hn <;> cases hn
      split at hn
      · cases hn
      omega
    have g1 := g.1
    have short : ∀ k, k < m → ws[k]? = some (4 * (k : Int) + 1, 4 * (k : Int) + 2) := fun k hk => by
      obtain ⟨w, e1, e2, e3⟩ := way_at g.2.2.1 (k := k) (by omega) (by omega)
      rw [way_short e3 (by omega) (by rw [four_take hf, if_neg (by omega)])] at e2
      rw [e1, e2]
    have late : ∀ k, m ≤ k → k < hs.length → ws[k]? = wayBy (hs.take k) a b d m := fun k hk hl => by
      obtain ⟨w, e1, e2, e3⟩ := way_at g.2.2.1 (k := k) (by omega) (by omega)
      rw [way_late e3 hf hk] at e2
      rw [e1, e2]
    have ha : hs.getD a 0 = hs.getD (m - 1) 0 := by have := hh a (by simp); rwa [getD_take (by omega), getD_take (by omega)] at this
    have hb : hs.getD b 0 = hs.getD (m - 1) 0 := by have := hh b (by simp); rwa [getD_take (by omega), getD_take (by omega)] at this
    have hc : hs.getD c 0 = hs.getD (m - 1) 0 := by have := hh c (by simp); rwa [getD_take (by omega), getD_take (by omega)] at this
    have hd : hs.getD d 0 = hs.getD (m - 1) 0 := by have := hh d (by simp); rwa [getD_take (by omega), getD_take (by omega)] at this
    have l0 : (hs.take m).length = m := by rw [List.length_take]; omega
    have l1 : (hs.take (m + 1)).length = m + 1 := by rw [List.length_take]; omega
    have l2 : (hs.take (m + 2)).length = m + 2 := by rw [List.length_take]; omega
    have l3 : (hs.take (m + 3)).length = m + 3 := by rw [List.length_take]; omega
    have w0 := late m (by omega) (by omega)
    have w1 := late (m + 1) (by omega) (by omega)
    have w2 := late (m + 2) (by omega) (by omega)
    have w3 := late (m + 3) (by omega) (by omega)
    unfold wayBy at w0 w1 w2 w3
    rw [l0, if_pos rfl] at w0
    rw [l1, if_neg (by omega), if_pos rfl] at w1
    rw [l2, if_neg (by omega), if_neg (by omega), if_pos rfl, getD_take (by omega), getD_take (by omega)] at w2
    rw [l3, if_neg (by omega), if_neg (by omega), if_neg (by omega), if_pos rfl] at w3
    have n0 := game_ne g (i := a) (j := m) (by omega) (by omega) (short a (by omega)) w0 (4 * a + 1) (by simp only; omega) (by simp only; omega) (by simp only; omega) (by simp only; omega)
    have n1 := game_ne g (i := d) (j := m + 1) (by omega) (by omega) (short d (by omega)) w1 (4 * d + 1) (by simp only; omega) (by simp only; omega) (by simp only; omega) (by simp only; omega)
    have mA := getD_mem (hs := hs) (i := m - 1) (by omega)
    have mx := getD_mem (hs := hs) (i := m) (by omega)
    have my := getD_mem (hs := hs) (i := m + 1) (by omega)
    have mz := getD_mem (hs := hs) (i := m + 2) (by omega)
    have mt := getD_mem (hs := hs) (i := m + 3) (by omega)
    rw [ha] at n0
    rw [hd] at n1
    by_cases cx : hs.getD m 0 = hs.getD (m + 1) 0
    · rw [if_pos cx] at w2
      have n2 := game_ne g (i := b) (j := m + 2) (by omega) (by omega) (short b (by omega)) w2 (4 * b + 1) (by simp only; omega) (by simp only; omega) (by simp only; omega) (by simp only; omega)
      have n3 := game_ne g (i := m) (j := m + 2) (by omega) (by omega) w0 w2 (4 * a + 2) (by simp only; omega) (by simp only; omega) (by simp only; omega) (by simp only; omega)
      have n4 := game_ne g (i := c) (j := m + 3) (by omega) (by omega) (short c (by omega)) w3 (4 * c + 1) (by simp only; omega) (by simp only; omega) (by simp only; omega) (by simp only; omega)
      have n5 := game_ne g (i := m + 1) (j := m + 3) (by omega) (by omega) w1 w3 (4 * d) (by simp only; omega) (by simp only; omega) (by simp only; omega) (by simp only; omega)
      have n6 := game_ne g (i := m + 2) (j := m + 3) (by omega) (by omega) w2 w3 (4 * b + 2) (by simp only; omega) (by simp only; omega) (by simp only; omega) (by simp only; omega)
      rw [hb] at n2
      rw [hc] at n4
      rw [← cx] at n5
      have := unl_four mA mx mz mt n0 n2 n4 n3 n5 n6
      omega
    · rw [if_neg cx] at w2
      have n2 := game_ne g (i := b) (j := m + 2) (by omega) (by omega) (short b (by omega)) w2 (4 * b + 1) (by simp only; omega) (by simp only; omega) (by simp only; omega) (by simp only; omega)
      have n3 := game_ne g (i := m) (j := m + 2) (by omega) (by omega) w0 w2 (4 * a + 2) (by simp only; omega) (by simp only; omega) (by simp only; omega) (by simp only; omega)
      have n4 := game_ne g (i := m + 1) (j := m + 2) (by omega) (by omega) w1 w2 (4 * d) (by simp only; omega) (by simp only; omega) (by simp only; omega) (by simp only; omega)
      rw [hb] at n2
      have := unl_four mA mx my mz n0 n1 n2 cx n3 n4
      omega
theorem way_len {hs : List Int} {w : Int × Int} (h : wayFor hs = some w) : hs.length < 14 := by
  have hu := (way_isWay h).1
  unfold wayFor at h
  rw [if_neg (by omega)] at h
  cases hf : fourAlike (hs.take 10) with
  | none =>
    by_cases z : hs.length < 14
    · exact z
    · exact absurd hf (four_there (by omega) (by omega))
  | some p =>
    obtain ⟨al, m⟩ := p
    rw [hf] at h
    obtain ⟨m1, a, b, c, d, rfl, h1, h2, h3, h4⟩ := four_is hf
    rw [List.length_take] at m1
    replace h : wayBy hs a b d m = some w := h
    unfold wayBy at h
    split at h
    · omega
    split at h
    · omega
    split at h
    · omega
    split at h
    · omega
    · cases h


/-! ### two to a tie; hues told by a unit; a hue that is free -/
def onT (t : Int) (w : Int × Int) : Bool := decide (min w.1 w.2 ≤ t) && decide (t < max w.1 w.2)
def iv (x y t : Int) : Nat := if x ≤ t ∧ t < y then 1 else 0
theorem cnt_cons {t x y : Int} {l : List (Int × Int)} (h : x < y) : ((x, y) :: l).countP (onT t) = l.countP (onT t) + iv x y t := by
  rw [List.countP_cons]
  unfold iv onT
  have e1 : min x y = x := by omega
  have e2 : max x y = y := by omega
  simp only [e1, e2]
  by_cases c1 : x ≤ t <;> by_cases c2 : t < y <;> simp [c1, c2]
def shortL (n : Nat) : List (Int × Int) := (List.range n).map fun k : Nat => (4 * (k : Int) + 1, 4 * (k : Int) + 2)
theorem short_get {n k : Nat} (h : k < n) : (shortL n)[k]? = some (4 * (k : Int) + 1, 4 * (k : Int) + 2) := by
  unfold shortL
  rw [List.getElem?_map, List.getElem?_range h]; rfl
theorem short_cnt (t : Int) : ∀ n, (shortL n).countP (onT t) = if 0 ≤ t ∧ t < 4 * (n : Int) ∧ t % 4 = 1 then 1 else 0
  | 0 => by unfold shortL; simp; omega
  | n + 1 => by
    have e : shortL (n + 1) = shortL n ++ [(4 * (n : Int) + 1, 4 * (n : Int) + 2)] := by unfold shortL; rw [List.range_succ, List.map_append]; rfl
    rw [e, List.countP_append, short_cnt t n, cnt_cons (by omega), List.countP_nil]
    unfold iv
    split <;> split <;> split <;> omega
theorem short_all {vs : List (Int × Int)} {n : Nat} (hn : n ≤ vs.length) (h : ∀ k, k < n → vs[k]? = some (4 * (k : Int) + 1, 4 * (k : Int) + 2)) : vs.take n = shortL n := by
  refine List.ext_getElem? fun k => ?_
  by_cases c : k < n
  · rw [List.getElem?_take, if_pos c, h k c, short_get c]
  · rw [List.getElem?_eq_none (by rw [List.length_take]; omega), List.getElem?_eq_none (by unfold shortL; simp; omega)]
theorem drop_at {α : Type} {vs : List α} {k : Nat} {w : α} (h : vs[k]? = some w) : vs.drop k = w :: vs.drop (k + 1) := by
  obtain ⟨h1, h2⟩ := List.getElem?_eq_some_iff.mp h
  rw [List.drop_eq_getElem_cons h1, h2]
theorem forced3 {ws : List (Int × Int)} {hs : List Int} (g : Game ws hs) {a b c d m : Nat} (hf : fourAlike (hs.take 10) = some ([a, b, c, d], m)) (h1 : a < b) (h2 : b < c) (h3 : c < d) (h4 : d < m) (m1 : m ≤ 10) (lm : m + 3 ≤ hs.length) (cx : hs.getD m 0 ≠ hs.getD (m + 1) 0) : 4 ≤ unl hs := by
  have hh := four_hue hf
  have g1 := g.1
  have short : ∀ k, k < m → ws[k]? = some (4 * (k : Int) + 1, 4 * (k : Int) + 2) := fun k hk => by
    obtain ⟨w, e1, e2, e3⟩ := way_at g.2.2.1 (k := k) (by omega) (by omega)
    rw [way_short e3 (by omega) (by rw [four_take hf, if_neg (by omega)])] at e2
    rw [e1, e2]
  have late : ∀ k, m ≤ k → k < hs.length → ws[k]? = wayBy (hs.take k) a b d m := fun k hk hl => by
    obtain ⟨w, e1, e2, e3⟩ := way_at g.2.2.1 (k := k) (by omega) (by omega)
    rw [way_late e3 hf hk] at e2
    rw [e1, e2]
  have ha : hs.getD a 0 = hs.getD (m - 1) 0 := by have := hh a (by simp); rwa [getD_take (by omega), getD_take (by omega)] at this
  have hb : hs.getD b 0 = hs.getD (m - 1) 0 := by have := hh b (by simp); rwa [getD_take (by omega), getD_take (by omega)] at this
  have hd : hs.getD d 0 = hs.getD (m - 1) 0 := by have := hh d (by simp); rwa [getD_take (by omega), getD_take (by omega)] at this
  have l0 : (hs.take m).length = m := by rw [List.length_take]; omega
  have l1 : (hs.take (m + 1)).length = m + 1 := by rw [List.length_take]; omega
  have l2 : (hs.take (m + 2)).length = m + 2 := by rw [List.length_take]; omega
  have w0 := late m (by omega) (by omega)
  have w1 := late (m + 1) (by omega) (by omega)
  have w2 := late (m + 2) (by omega) (by omega)
  unfold wayBy at w0 w1 w2
  rw [l0, if_pos rfl] at w0
  rw [l1, if_neg (by omega), if_pos rfl] at w1
  rw [l2, if_neg (by omega), if_neg (by omega), if_pos rfl, getD_take (by omega), getD_take (by omega), if_neg cx] at w2
  have n0 := game_ne g (i := a) (j := m) (by omega) (by omega) (short a (by omega)) w0 (4 * a + 1) (by simp only; omega) (by simp only; omega) (by simp only; omega) (by simp only; omega)
  have n1 := game_ne g (i := d) (j := m + 1) (by omega) (by omega) (short d (by omega)) w1 (4 * d + 1) (by simp only; omega) (by simp only; omega) (by simp only; omega) (by simp only; omega)
  have mA := getD_mem (hs := hs) (i := m - 1) (by omega)
  have mx := getD_mem (hs := hs) (i := m) (by omega)
  have my := getD_mem (hs := hs) (i := m + 1) (by omega)
  have mz := getD_mem (hs := hs) (i := m + 2) (by omega)
  rw [ha] at n0
  rw [hd] at n1
  have n2 := game_ne g (i := b) (j := m + 2) (by omega) (by omega) (short b (by omega)) w2 (4 * b + 1) (by simp only; omega) (by simp only; omega) (by simp only; omega) (by simp only; omega)
  have n3 := game_ne g (i := m) (j := m + 2) (by omega) (by omega) w0 w2 (4 * a + 2) (by simp only; omega) (by simp only; omega) (by simp only; omega) (by simp only; omega)
  have n4 := game_ne g (i := m + 1) (j := m + 2) (by omega) (by omega) w1 w2 (4 * d) (by simp only; omega) (by simp only; omega) (by simp only; omega) (by simp only; omega)
  rw [hb] at n2
  exact unl_four mA mx my mz n0 n1 n2 cx n3 n4
theorem load_at {vs ws : List (Int × Int)} {hs : List Int} (g : Game ws hs) (hu : unl hs < 4) (cs : ConsW vs hs vs.length) (l : vs.length = hs.length + 1) (t : Int) : vs.countP (onT t) ≤ 2 := by
  have allshort : ∀ n, n ≤ vs.length → (∀ k, k < n → fourAlike ((hs.take 10).take k) = none) → vs.take n = shortL n := fun n hn hk => short_all hn fun k hk' => by
    obtain ⟨w, e1, e2, e3⟩ := way_at cs (k := k) (by omega) (by omega)
    rw [way_short e3 (by omega) (hk k hk')] at e2
    rw [e1, e2]
  have one : ∀ n, (shortL n).countP (onT t) ≤ 2 := fun n => by rw [short_cnt]; split <;> omega
  cases hf : fourAlike (hs.take 10) with
  | none =>
    have := allshort vs.length (Nat.le_refl _) fun k _ => four_take0 hf k
    rw [List.take_length] at this
    rw [this]; exact one _
  | some p =>
    obtain ⟨al, m⟩ := p
    obtain ⟨m1, a, b, c, d, rfl, h1, h2, h3, h4⟩ := four_is hf
    rw [List.length_take] at m1
    by_cases hm : vs.length ≤ m
    · have := allshort vs.length (Nat.le_refl _) fun k hk => by rw [four_take hf, if_neg (by omega)]
      rw [List.take_length] at this
      rw [this]; exact one _
    · have hs0 := allshort m (by omega) fun k hk => by rw [four_take hf, if_neg (by omega)]
      have late : ∀ i, m + i < vs.length → vs[m + i]? = wayBy (hs.take (m + i)) a b d m ∧ (hs.take (m + i)).length = m + i := fun i hl => by
        obtain ⟨w, e1, e2, e3⟩ := way_at cs (k := m + i) (by omega) (by omega)
        rw [way_late e3 hf (by omega)] at e2
        exact ⟨by rw [e1, e2], by rw [List.length_take]; omega⟩
      have n5 : vs.length ≤ m + 4 := by
        by_cases z : vs.length ≤ m + 4
        · exact z
        · obtain ⟨e1, e2⟩ := late 4 (by omega)
          unfold wayBy at e1
          rw [e2, if_neg (by omega), if_neg (by omega), if_neg (by omega), if_neg (by omega), List.getElem?_eq_getElem (by omega)] at e1
          cases e1
      rw [← List.take_append_drop m vs, List.countP_append, hs0, short_cnt]
      obtain ⟨e1, e2⟩ := late 0 (by omega)
      unfold wayBy at e1
      rw [e2, if_pos (by omega), Nat.add_zero] at e1
      rw [drop_at e1, cnt_cons (by omega)]
      clear e1 e2
      by_cases z1 : vs.length = m + 1
      · rw [List.drop_eq_nil_of_le (by omega), List.countP_nil]
        unfold iv
        split <;> split <;> omega
      obtain ⟨e1, e2⟩ := late 1 (by omega)
      unfold wayBy at e1
      rw [e2, if_neg (by omega), if_pos rfl] at e1
      rw [drop_at e1, cnt_cons (by omega)]
      clear e1 e2
      by_cases z2 : vs.length = m + 2
      · rw [List.drop_eq_nil_of_le (by omega), List.countP_nil]
        unfold iv
        split <;> split <;> split <;> omega
      obtain ⟨e1, e2⟩ := late 2 (by omega)
      unfold wayBy at e1
      rw [e2, if_neg (by omega), if_neg (by omega), if_pos rfl] at e1
      by_cases z3 : vs.length = m + 3
      · split at e1
        · rw [drop_at e1, cnt_cons (by omega), List.drop_eq_nil_of_le (by omega), List.countP_nil]
          unfold iv
          split <;> split <;> split <;> split <;> omega
        · rw [drop_at e1, cnt_cons (by omega), List.drop_eq_nil_of_le (by omega), List.countP_nil]
          unfold iv
          split <;> split <;> split <;> split <;> omega
      · have cx : (hs.take (m + 2)).getD m 0 = (hs.take (m + 2)).getD (m + 1) 0 := by
          rw [getD_take (by omega), getD_take (by omega)]
          by_cases cx : hs.getD m 0 = hs.getD (m + 1) 0
          · exact cx
          · have := forced3 g hf h1 h2 h3 h4 (by omega) (by omega) cx
            omega
        rw [if_pos cx] at e1
        rw [drop_at e1, cnt_cons (by omega)]
        clear e1 e2
        obtain ⟨e1, e2⟩ := late 3 (by omega)
        unfold wayBy at e1
        rw [e2, if_neg (by omega), if_neg (by omega), if_neg (by omega), if_pos rfl] at e1
        rw [drop_at e1, cnt_cons (by omega), List.drop_eq_nil_of_le (by omega), List.countP_nil]
        unfold iv
        split <;> split <;> split <;> split <;> split <;> omega
theorem load_two {ws : List (Int × Int)} {hs : List Int} {w : Int × Int} (g : Game ws hs) (hw : wayFor hs = some w) (t : Int) : (ws ++ [w]).countP (onT t) ≤ 2 := by
  have g1 := g.1
  refine load_at g (way_isWay hw).1 (fun k hk => ?_) (by simp; omega) t
  by_cases c : k < ws.length
  · rw [List.getElem?_append_left c]; exact g.2.2.1 k c
  · have e : k = ws.length := by simp at hk; omega
    subst e
    rw [List.getElem?_append_right (Nat.le_refl _), ← g1, List.take_length, hw]; simp
theorem met_map {f : Int → Int} (inj : ∀ x y, f x = f y → x = y) (val : Nat → Int) : ∀ n, PyProof.Rows.firstMet (fun i => f (val i)) n = (PyProof.Rows.firstMet val n).map f
  | 0 => rfl
  | n + 1 => by
    rw [PyProof.Rows.firstMet_succ, PyProof.Rows.firstMet_succ, met_map inj val n]
    unfold PyProof.Rows.step_dedup
    have e : ((PyProof.Rows.firstMet val n).map f).any (· == f (val n)) = (PyProof.Rows.firstMet val n).any (· == val n) := by
      rw [List.any_map]
      congr 1
      funext y
      show (f y == f (val n)) = (y == val n)
      rw [Bool.eq_iff_iff, beq_iff_eq, beq_iff_eq]
      exact ⟨inj _ _, fun h => by rw [h]⟩
    rw [e]
    split
    · rfl
    · rw [List.map_append]; rfl
section
variable {u : Int}
theorem getD_mul (hs : List Int) (i : Nat) : (hs.map (u * ·)).getD i 0 = u * hs.getD i 0 := by
  rw [List.getD_eq_getElem?_getD, List.getD_eq_getElem?_getD, List.getElem?_map]
  cases hs[i]? with
  | none => simp
  | some x => rfl
theorem mul_inj (hu : 0 < u) (x y : Int) (h : u * x = u * y) : x = y := Int.eq_of_mul_eq_mul_left (by omega) h
theorem unl_mul (hu : 0 < u) (hs : List Int) : unl (hs.map (u * ·)) = unl hs := by
  unfold unl
  rw [List.length_map]
  have : (fun i => (hs.map (u * ·)).getD i 0) = fun i => u * hs.getD i 0 := funext fun i => getD_mul hs i
  rw [this, met_map (f := (u * ·)) (mul_inj hu) (fun i => hs.getD i 0) hs.length, List.length_map]
theorem fa_mul (hu : 0 < u) (hs : List Int) (m : Nat) : fa (hs.map (u * ·)) m = fa hs m := by
  unfold fa
  refine List.filter_congr fun k _ => ?_
  rw [getD_mul, getD_mul]
  refine decide_eq_decide.mpr ⟨mul_inj hu _ _, fun h => by rw [h]⟩
theorem four_mul (hu : 0 < u) (hs : List Int) : fourAlike (hs.map (u * ·)) = fourAlike hs := by
  unfold fourAlike fourAt
  rw [List.length_map]
  congr 1
  funext i
  rw [fa_mul hu]
theorem wayBy_mul (hu : 0 < u) (hs : List Int) (a b d m : Nat) : wayBy (hs.map (u * ·)) a b d m = wayBy hs a b d m := by
  unfold wayBy
  rw [List.length_map, getD_mul, getD_mul]
  have e : (u * hs.getD m 0 = u * hs.getD (m + 1) 0) = (hs.getD m 0 = hs.getD (m + 1) 0) := propext ⟨mul_inj hu _ _, fun h => by rw [h]⟩
  simp only [e]
theorem way_mul (hu : 0 < u) (hs : List Int) : wayFor (hs.map (u * ·)) = wayFor hs := by
  unfold wayFor
  rw [unl_mul hu, ← List.map_take, four_mul hu, List.length_map]
  cases fourAlike (hs.take 10) with
  | none => rfl
  | some p =>
    obtain ⟨al, m⟩ := p
    show (if 4 ≤ unl hs then none else wayBy (hs.map (u * ·)) _ _ _ _) = _
    rw [wayBy_mul hu]
theorem Game.mul {ws : List (Int × Int)} {hs : List Int} (hu : 0 < u) (g : Game ws hs) : Game ws (hs.map (u * ·)) := by
  obtain ⟨g1, g2, g3, g4⟩ := g
  refine ⟨by rw [List.length_map]; exact g1, fun h hh => ?_, fun k hk => ?_, fun i j z => g4 i j ?_⟩
  · obtain ⟨x, hx, rfl⟩ := List.mem_map.mp hh
    exact Int.mul_nonneg (by omega) (g2 x hx)
  · rw [← List.map_take, way_mul hu]; exact g3 k hk
  · obtain ⟨z1, z2, z3⟩ := z
    refine ⟨z1, z2, ?_⟩
    rw [getD_mul, getD_mul] at z3
    split at z3
    · rw [if_pos ‹_›]
      exact absurd z3 (by
        have : 0 ≤ hs.getD i 0 := g2 _ (getD_mem (by omega))
        have := Int.mul_nonneg (show 0 ≤ u by omega) this
        omega)
    · rw [if_neg ‹_›]
      exact ⟨mul_inj hu _ _ z3.1, z3.2⟩
end
theorem three_free {hs ts : List Int} {r : Nat} (h : unl hs < 4) (ht : ∀ t ∈ ts, t ∈ hs) (hr : 3 ≤ r) (he : (keepI r fun k : Nat => !decide ((k : Int) ∈ ts)) = []) : (3 : Int) ∉ ts := by
  have all : ∀ k : Nat, k < r → (k : Int) ∈ ts := fun k hk => by
    unfold keepI at he
    rw [List.map_eq_nil_iff, List.filter_eq_nil_iff] at he
    have := he k (List.mem_range.mpr hk)
    simpa using this
  intro h3
  have := unl_four (ht _ (all 0 (by omega))) (ht _ (all 1 (by omega))) (ht _ (all 2 (by omega))) (ht _ h3) (by decide) (by decide) (by decide) (by decide) (by decide) (by decide)
  omega


theorem k_indexI {K : PySem.W.Frag} {H : Hp} {Q : VK} {p : Addr} {ns : List Int} {x : Int} (hs : SqL K H p (ns.map V.int)) (hx : x ∈ ns) (h : Q (.int (ns.idxOf x : Nat)) H) : rIndex K (.ref p) [.int x] H Q := by
  have hl : ns.idxOf x < ns.length := List.idxOf_lt_length_of_mem hx
  have hg : ns[ns.idxOf x]? = some x := by rw [List.getElem?_eq_getElem hl, List.getElem_idxOf hl]
  refine k_indexV (z := .int x) hs rfl (flat_ints ns) (by rw [List.getElem?_map, hg]; rfl) (by show (x == x) = true; simp) (fun m z' hm hz => ?_) h
  rw [List.getElem?_map] at hz
  obtain ⟨y, hy, rfl⟩ := Option.map_eq_some_iff.mp hz
  show (y == x) = false
  have hml : m < ns.length := by omega
  have e : y = ns[m] := by rw [List.getElem?_eq_getElem hml] at hy; exact (Option.some.inj hy).symm
  rw [e]
  have := List.not_of_lt_findIdx (p := (· == x)) (xs := ns) hm
  simpa using this
theorem eqv_ne {n : Int} {ns : List Int} : PyData.eqv (dInts (n :: ns)) (.list []) = false := rfl
def pr_law_hue (K : PySem.W.Frag) (v0 v1 v2 v3 v4 : V) (H : Hp) (Q : VK) (_ : XK) : Prop := ∃ (pu p wl hl : Addr) (k x y : Int) (ws : List (Int × Int)) (hs : List Int) (ys : List V) (mn : Int), v0 = .ref pu ∧ v1 = .ref p ∧ v2 = .ref wl ∧ v3 = .ref hl ∧ v4 = .int mn ∧ Le H pu k ∧ k < 800000 ∧ hid [pu] H p = some (.tup [.int x, .int y]) ∧ hid [pu] H wl = some (.lst ys) ∧ DpAll K (hid [pu] H) ys (List.map dPair ws) ∧ hid [pu] H hl = some (.lst (List.map V.int hs)) ∧ hs.length = ws.length ∧ ws.length ≤ 15 ∧ 0 ≤ mn ∧ mn < 16 ∧ unl hs < 4 ∧
  ∀ h k' H', 0 ≤ h → h ≤ 40 → (∀ j, j < ws.length → meetB (ws.getD j (0, 0)) (x, y) = true → hs.getD j 0 ≠ h) → Le H' pu k' → k' ≤ k + 1 → Same (hid [pu] H) (hid [pu] H') → Q (.int h) H'
def t_law_hue (K : PySem.W.Frag) : TS :=
  (tSeq (tAsg (tLc (iRng1 (tCons (tCB (rLen K) (tCons (tVar 3) tNil)) tNil)) (gName 8) (tB (tCall (sp_law_meet K) [] E0 (tCons (tOp (rIxL K) (tVar 2) (tVar 8)) (tCons (tVar 1) tNil)))) (tOp (rIxL K) (tVar 3) (tVar 8)) [8]) (gName 5))
    (tSeq (tAsg (tLc (iRng1 (tCons (tOp (rIxL K) (tLst (tCons (tC (.int 3)) (tCons (tC (.int 3)) (tCons (tC (.int 4)) (tCons (tC (.int 40)) tNil))))) (tOp xMod (tVar 4) (tC (.int 4)))) tNil)) (gName 9) (tTest (tOp (rIn K true) (tVar 9) (tVar 5))) (tVar 9) [9]) (gName 6))
    (tSeq (tIfS (tTest (tOp (rEqD K) (tVar 6) (tLst tNil))) (tAsg (tLst (tCons (tC (.int 3)) tNil)) (gName 6)) tNext)
    (tSeq (tIfS (tTest (tOp rEq (tOp xDiv (tVar 4) (tC (.int 4))) (tC (.int 0)))) (tRet (tOp (rIxL K) (tVar 6) (tC (.int 0)))) tNext)
    (tSeq (tIfS (tTest (tOp rEq (tOp xDiv (tVar 4) (tC (.int 4))) (tC (.int 1)))) (tSeq (tAsg (tLc (iList K (tVar 6)) (gName 9) tYes (tBM K "list" (rCntV K) (tVar 3) (tCons (tVar 9) tNil)) [9]) (gName 7))
    (tRet (tOp (rIxL K) (tVar 6) (tBM K "list" (rIndex K) (tVar 7) (tCons (tCB (rMax K) (tCons (tVar 7) tNil)) tNil))))) tNext)
    (tRet (tOp (rIxL K) (tVar 6) (tCall (sp_law_draw K) [] E0 (tCons (tVar 0) (tCons (tCB (rLen K) (tCons (tVar 6) tNil)) tNil))))))))))
theorem pure_law_hue {v0 v1 v2 v3 v4 : V} {H : Hp} {Q : VK} {E : XK} (h : pr_law_hue K v0 v1 v2 v3 v4 H Q E) : t_law_hue K ⟨fun _ H' => Q .non H', Q, fun _ _ => False, fun _ _ => False⟩ [some v0, some v1, some v2, some v3, some v4, none, none, none, none, none] H := by
  obtain ⟨pu, p, wl, hl, k, x, y, ws, hs, ys, mn, rfl, rfl, rfl, rfl, rfl, L, hk, ep, ew, dy, eh, lh, lw, m0, m1, un, q⟩ := h
  unfold t_law_hue
  have ep7 : H p = some (.tup [.int x, .int y]) := hid_same _ _ _ _ ep
  have ew7 : H wl = some (.lst ys) := hid_same _ _ _ _ ew
  have eh7 : H hl = some (.lst (List.map V.int hs)) := hid_same _ _ _ _ eh
  have dy7 : DpAll K H ys (List.map dPair ws) := dpa_same (hid_same _ _) dy
  have ly := dpa_len dy7
  rw [List.length_map] at ly
  wtm_at "s"
  refine lc_pureR (by omega) (fun j => (if meetB (ws.getD j (0, 0)) (x, y) = true then some (hs.getD j 0) else none).map V.int) ?_ (fun tk H8 ntk s8 e8 => ?_)
  · intro j H' hj sm R R0 h1 h2
    rw [Int.zero_add]
    obtain ⟨xv, hxv⟩ : ∃ xv, ys[j]? = some xv := ⟨ys[j]'(by omega), List.getElem?_eq_getElem (by omega)⟩
    obtain ⟨w, cw, hw, rfl, hcw⟩ := dpairs_get dy7 hxv
    obtain ⟨u, hu⟩ : ∃ u, hs[j]? = some u := ⟨hs[j]'(by omega), List.getElem?_eq_getElem (by omega)⟩
    rw [getD_of hw, getD_of hu] at h1 h2
    wtm_at "s"
    refine k_ixL (sl (sm _ _ ew7)) (atI_nat hxv) ?_
    wtm_at "s"
    refine ⟨_, _, rfl, w, (x, y), dp_of_pair (same_seqT sm hcw), dp_of_pair (stp (sm _ _ ep7)), ?_⟩
    wtm_at "s"
    refine k_itb (fun c => ?_) (fun c => ?_)
    · wtm_at "s"
      refine k_ixN (sl (sm _ _ eh7)) hu ?_
      exact h1 _ (by rw [if_pos c]; rfl)
    · exact h2 (by rw [if_neg (by rw [c]; decide)]; rfl)
  rw [← List.map_filterMap] at e8
  have tin : ∀ t ∈ ((List.range ((hs.length : Nat) : Int).toNat).filterMap fun j => if meetB (ws.getD j (0, 0)) (x, y) = true then some (hs.getD j 0) else none), t ∈ hs := fun t ht => by
    obtain ⟨j, hj, e⟩ := List.mem_filterMap.mp ht
    have hj' := List.mem_range.mp hj
    split at e
    · cases e
      exact getD_mem (by omega)
    · cases e
  have tall : ∀ j, j < ws.length → meetB (ws.getD j (0, 0)) (x, y) = true → hs.getD j 0 ∈ ((List.range ((hs.length : Nat) : Int).toNat).filterMap fun j => if meetB (ws.getD j (0, 0)) (x, y) = true then some (hs.getD j 0) else none) := fun j hj hm => List.mem_filterMap.mpr ⟨j, List.mem_range.mpr (by omega), by rw [if_pos hm]⟩
  generalize ((List.range ((hs.length : Nat) : Int).toNat).filterMap fun j => if meetB (ws.getD j (0, 0)) (x, y) = true then some (hs.getD j 0) else none) = ts at e8 tin tall
  have out : ∀ h k' H', 0 ≤ h ∧ h ≤ 40 → h ∉ ts → Le H' pu k' → k' ≤ k + 1 → Same (hid [pu] H) (hid [pu] H') → Q (.int h) H' := fun h k' H' h0 hn l1 l2 s => q h k' H' h0.1 h0.2 (fun j hj hm e => hn (e ▸ tall j hj hm)) l1 l2 s
  clear tall q
  wtm_at "s"
  refine kL (by simp) (fun bl H9 nbl s9 ebl => ?_)
  have ebl' : H9 bl = some (.lst (List.map V.int [3, 3, 4, 40])) := ebl
  wtm_at "s"
  refine k_ixI (sl ebl') (by omega) (by simp only [List.length_cons, List.length_nil]; omega) ?_
  have hr := getD_memI (ns := [3, 3, 4, 40]) (i := mn % 4) (by omega) (by simp only [List.length_cons, List.length_nil]; omega)
  generalize ([3, 3, 4, 40] : List Int).getD (mn % 4).toNat 0 = r at hr ⊢
  have hr2 : 3 ≤ r ∧ r ≤ 40 := by
    simp only [List.mem_cons, List.not_mem_nil, or_false] at hr
    rcases hr with rfl | rfl | rfl | rfl <;> omega
  clear hr
  have e89 := s9 _ _ e8
  wtm_at "s"
  refine lc_pureR (by omega) (fun j => if (fun j : Nat => !decide ((j : Int) ∈ ts)) j = true then some (V.int (0 + (j : Nat))) else none) ?_ (fun fr HA nfr sA eA => ?_)
  · intro j H' hj sm R R0 h1 h2
    have e8' := sm _ _ e89
    wtm_at "s"
    rw [Int.zero_add] at h1 ⊢
    refine k_itn (fun c => ?_) (fun c => ?_)
    · wtm_at "s"
      exact h1 _ (by rw [if_pos (by simp [c])])
    · exact h2 (by rw [if_neg (by simp [c])])
  rw [keepI_fm] at eA
  have fl : (keepI r.toNat fun k : Nat => !decide ((k : Int) ∈ ts)).length ≤ 40 := by
    unfold keepI
    rw [List.length_map]
    exact Nat.le_trans (List.length_filter_le _ _) (by simp; omega)
  have fmem : ∀ z ∈ keepI r.toNat (fun k : Nat => !decide ((k : Int) ∈ ts)), (0 ≤ z ∧ z ≤ 40) ∧ z ∉ ts := fun z hz => by
    obtain ⟨z0, z1, z2⟩ := keepI_mem.mp hz
    refine ⟨⟨z0, by omega⟩, fun w => ?_⟩
    rw [show ((z.toNat : Nat) : Int) = z by omega] at z2
    simp [w] at z2
  have f3 : keepI r.toNat (fun k : Nat => !decide ((k : Int) ∈ ts)) = [] → (3 : Int) ∉ ts := three_free un tin (by omega)
  have eA' : HA fr = some (.lst (List.map V.int (keepI r.toNat fun k : Nat => !decide ((k : Int) ∈ ts)))) := eA
  generalize (keepI r.toNat fun k : Nat => !decide ((k : Int) ∈ ts)) = fs at eA' fl fmem f3
  clear eA
  have sHA : Same H HA := s8.trans (s9.trans sA)
  have LA := L.same sHA
  refine k_gname (seqO (fun σ' H' => ∃ fr fs, Same H H' ∧ H' fr = some (.lst (List.map V.int fs)) ∧ fr ∉ [pu] ∧ 0 < fs.length ∧ fs.length ≤ 40 ∧ (∀ z ∈ fs, (0 ≤ z ∧ z ≤ 40) ∧ z ∉ ts) ∧ σ' = [some (.ref pu), some (.ref p), some (.ref wl), some (.ref hl), some (.int mn), some (.ref tk), some (.ref fr), none, none, none]) ?_ (fun nx' go => ?_))
  · clear eA' fl fmem f3 LA sHA sA fs fr nfr
    rintro σ' HB ⟨fr, fs, sB, eB, nfr, f0, f1, fm, rfl⟩
    have LB := L.same sB
    have pick : ∀ i : Int, 0 ≤ i → i < fs.length → (0 ≤ fs.getD i.toNat 0 ∧ fs.getD i.toNat 0 ≤ 40) ∧ fs.getD i.toNat 0 ∉ ts := fun i i0 i1 => fm _ (getD_memI i0 i1)
    wtm_at "s"
    refine k_it (fun c => ?_) (fun c => ?_)
    · wtm_at "s"
      refine k_ixI (sl eB) (by decide) (by omega) ?_
      exact out _ _ _ (pick 0 (by decide) (by omega)).1 (pick 0 (by decide) (by omega)).2 LB (by omega) (hid_mono sB)
    · wtm_at "s"
      refine k_it (fun c2 => ?_) (fun c2 => ?_)
      · wtm_at "s"
        refine lc_pure (sl eB) fs (by simp) (by omega) (fun z => some (V.int (cntV (.int z) (hs.map V.int) : Nat))) ?_ (fun ct HC nct sC eC => ?_)
        · intro i x' z H' hx hp sm R R0 h1 h2
          rw [List.getElem?_map, hp] at hx
          cases hx
          wtm_at "s"
          refine k_tyL (sl (sm _ _ (sB _ _ eh7))) ?_
          wtm_at "s"
          refine k_cntV (sl (sm _ _ (sB _ _ eh7))) rfl (flat_ints _) ?_
          exact h1 _ rfl
        · have eC' : HC ct = some (.lst (List.map V.int (fs.map fun z => ((cntV (.int z) (hs.map V.int) : Nat) : Int)))) := by
            rw [eC, show (fun z => some (V.int (cntV (.int z) (hs.map V.int) : Nat))) = some ∘ (fun z : Int => V.int (cntV (.int z) (hs.map V.int) : Nat)) from rfl, List.filterMap_eq_map, List.map_map]; rfl
          have lC : (fs.map fun z => ((cntV (.int z) (hs.map V.int) : Nat) : Int)).length = fs.length := by simp
          generalize (fs.map fun z => ((cntV (.int z) (hs.map V.int) : Nat) : Int)) = cs at eC' lC
          wtm_at "s"
          refine k_tyL (sl eC') ?_
          wtm_at "s"
          refine k_max (sl eC') (by omega) (fun m' m1' m2' => ?_)
          wtm_at "s"
          refine k_indexI (sl eC') m1' ?_
          have hi := List.idxOf_lt_length_of_mem m1'
          refine k_ixI (sl (sC _ _ eB)) (by omega) (by omega) ?_
          have hp := pick (cs.idxOf m' : Nat) (by omega) (by omega)
          exact out _ _ _ hp.1 hp.2 (LB.same sC) (by omega) (hid_mono (sB.trans sC))
      · wtm_at "s"
        refine ⟨_, _, rfl, pu, _, (fs.length : Nat), rfl, rfl, LB, by omega, by omega, by omega, fun d HD d0 d1 LD SD => ?_⟩
        refine k_ixI (sl (keeps SD eB nfr)) d0 (by omega) ?_
        have hp := pick d d0 (by omega)
        exact out _ _ _ hp.1 hp.2 LD (by omega) ((hid_mono sB).trans SD)
  · have nfr' := (L.same (s8.trans s9)).fresh nfr
    wtm_at "s"
    refine kL (by simp) (fun em HB nem sB eem => ?_)
    cases fs with
    | nil =>
      refine k_eqD1 (c := .list []) (n := 4) (.lst (sl (sB _ _ eA')) .nil) (.lst (sl eem) .nil) ⟨by decide, by decide⟩ (by decide) ?_
      wtm_at "s"
      refine kL (by simp) (fun th HC nth sC eth => ?_)
      have nth' := (LA.same sB).fresh nth
      exact go _ _ ⟨th, [3], sHA.trans (sB.trans sC), eth, nth', by decide, by decide, fun z hz => by
        rw [List.mem_singleton.mp hz]
        exact ⟨by decide, f3 rfl⟩, rfl⟩
    | cons z r =>
      refine k_eqD (c := dInts (z :: r)) (d := .list []) (n := 4) (dp_of_ints (sl (sB _ _ eA'))) (.lst (sl eem) .nil) (sh_ints _) ⟨by decide, by decide⟩ (by decide) ?_
      rw [eqv_ne]
      wtm_at "s"
      exact go _ _ ⟨fr, z :: r, sHA.trans sB, sB _ _ eA', nfr', by simp, fl, fmem, rfl⟩
abbrev sp_law_hue (K : PySem.W.Frag) : Sp := fun vs H Q E => ∃ v0 v1 v2 v3 v4, vs = [v0, v1, v2, v3, v4] ∧ pr_law_hue K v0 v1 v2 v3 v4 H Q E
theorem ok_law_hue (T : Txt K mg A) : FnOk P w K mg base CX0 3 A.a_law_hue A.d_law_hue ["_law_left_here", "_law_way", "_law_ways", "_law_hues", "_law_manner"] (sp_law_hue K) := by
  refine T.F_law_hue.ok sc_law_hue (fun vs H Q E h => by obtain ⟨v0, v1, v2, v3, v4, rfl, _⟩ := h; rfl) (fun cdv A0 outer s H vs Q E hr h => ?_)
  obtain ⟨v0, v1, v2, v3, v4, rfl, h⟩ := h
  exact ⟨t_law_hue K, (pss_cons (ps_set (i := 5) sc_law_hue.nd rfl (Or.inr rfl) (pe_lc (own := [("_law_k", 8)]) (by rfl) sc_law_hue.nd (pi_range1 (by rfl) T.z_range (pa_cons (pe_callB q_len (by rfl) T.z_len (by decide +kernel) (pa_cons (pv 3) pa_nil)) pa_nil)) (blkOk_by (own := [("_law_k", 8)]) (N := ["_law_left_here", "_law_way", "_law_ways", "_law_hues", "_law_manner", "_law_taken", "_law_free", "_law_counts_of", "_law_k", "_law_hue_here"]) (sc := defScope s_law_hue) (by decide +kernel)) (fun _ _ _ _ _ => (pg_name (i := 8) sc_law_hue.nd rfl (Or.inl rfl))) (fun _ _ _ _ _ => (pts_one (pt_val (pe_call (ok_law_meet T) (hr.mono (by decide)) (by rfl) T.g_law_meet T.F_law_meet.kp T.b_law_meet .nil pass0 (pa_cons (pe_ix ix_list (pv 2) (pv 8) (fun _ _ => rfl)) (pa_cons (pv 1) pa_nil)))))) (fun _ _ _ _ _ => (pe_ix ix_list (pv 3) (pv 8) (fun _ _ => rfl)))))
      (pss_cons (ps_setLc (i := 6) (own := [("_law_hue_here", 9)]) (by rfl) sc_law_hue.nd rfl rfl (sw_true rfl rfl rfl (by decide +kernel)) (pi_range1 (by rfl) T.z_range (pa_cons (pe_ix ix_list (pe_lst (pa_cons pe_int (pa_cons pe_int (pa_cons pe_int (pa_cons pe_int pa_nil))))) (pe_op op_mod (pv 4) pe_int) (fun _ _ => rfl)) pa_nil)) (blkOk_by (own := [("_law_hue_here", 9)]) (N := ["_law_left_here", "_law_way", "_law_ways", "_law_hues", "_law_manner", "_law_taken", "_law_free", "_law_counts_of", "_law_k", "_law_hue_here"]) (sc := defScope s_law_hue) (by decide +kernel)) (fun _ _ _ _ _ => (pg_name (i := 9) sc_law_hue.nd rfl (Or.inl rfl))) (fun _ _ _ _ _ => (pts_one (pt_cmpR op_notIn_seq (pv 9) (pv 5) (by rfl)))) (fun _ _ _ _ _ => (pv 9)))
      (pss_cons (ps_if (pt_cmpR (op_eqD hr.units) (pv 6) (pe_lst pa_nil) (nomark _)) (pss_one (ps_set (i := 6) sc_law_hue.nd rfl (Or.inl rfl) (pe_lst (pa_cons pe_int pa_nil)))) pss_nil)
      (pss_cons (ps_if (pt_cmpR op_eq (pe_op op_fdiv (pv 4) pe_int) pe_int (nomark _)) (pss_one (ps_ret (pe_ix ix_list (pv 6) pe_int (fun _ _ => rfl)))) pss_nil)
      (pss_cons (ps_if (pt_cmpR op_eq (pe_op op_fdiv (pv 4) pe_int) pe_int (nomark _)) (pss_cons (ps_setLc (i := 7) (own := [("_law_hue_here", 9)]) (by rfl) sc_law_hue.nd rfl rfl (sw_true rfl rfl rfl (by decide +kernel)) (pi_list (pv 6)) (blkOk_by (own := [("_law_hue_here", 9)]) (N := ["_law_left_here", "_law_way", "_law_ways", "_law_hues", "_law_manner", "_law_taken", "_law_free", "_law_counts_of", "_law_k", "_law_hue_here"]) (sc := defScope s_law_hue) (by decide +kernel)) (fun _ _ _ _ _ => (pg_name (i := 9) sc_law_hue.nd rfl (Or.inl rfl))) (fun _ _ _ _ _ => pts_nil) (fun _ _ _ _ _ => (pe_bm PySem.F.plainAttrs_list PySem.F.slot_list_count PySem.F.type_list_count mt_lcountV (pv 3) (pa_cons (pv 9) pa_nil))))
      (pss_one (ps_ret (pe_ix ix_list (pv 6) (pe_bm PySem.F.plainAttrs_list PySem.F.slot_list_index PySem.F.type_list_index mt_index (pv 7) (pa_cons (pe_callB (cr_max (by rfl)) (by rfl) T.z_max (by decide +kernel) (pa_cons (pv 7) pa_nil)) pa_nil)) (fun _ _ => rfl))))) pss_nil)
      (pss_one (ps_ret (pe_ix ix_list (pv 6) (pe_call (ok_law_draw T) (hr.mono (by decide)) (by rfl) T.g_law_draw T.F_law_draw.kp T.b_law_draw .nil pass0 (pa_cons (pv 0) (pa_cons (pe_callB q_len (by rfl) T.z_len (by decide +kernel) (pa_cons (pv 6) pa_nil)) pa_nil))) (fun _ _ => rfl))))))))), pure_law_hue h⟩


theorem ty_tup {K : PySem.W.Frag} {H : Hp} {p : Addr} {xs : List V} (h : SqT K H p xs) : TyX K H (.ref p) (.type "tuple") := by
  rcases h with (h | ⟨o, h⟩) | ⟨o, its, n, h, c, _⟩
  · exact .base (.tup h)
  · exact .fTuple h
  · exact .kTuple h c
def pr_law_is_way (K : PySem.W.Frag) (v0 : V) (H : Hp) (Q : VK) (_ : XK) : Prop := ∃ (p : Addr) (x y : Int), v0 = .ref p ∧ SqT K H p [.int x, .int y] ∧ isWay (.line 41) x y ∧ ∀ H', Same H H' → Q (.bl true) H'
def t_law_is_way (K : PySem.W.Frag) : TS :=
  (tSeq (tIfS (tOr (tNot (tB (tCB (rIsi K) (tCons (tVar 0) (tCons (tC (.ty "tuple")) tNil))))) (tTest (tOp rNe (tCB (rLen K) (tCons (tVar 0) tNil)) (tC (.int 2))))) (tRet (tC (.bl false))) tNext)
    (tSeq (tIfS (tTest (tOp xGt (tCB (rLen K) (tCons (tLc (iTup K (tVar 0)) (gName 1) (tOr (tB (tCB (rIsi K) (tCons (tVar 1) (tCons (tC (.ty "bool")) tNil)))) (tOr (tNot (tB (tCB (rIsi K) (tCons (tVar 1) (tCons (tC (.ty "int")) tNil))))) (tOr (tTest (tOp xLt (tVar 1) (tC (.int 0)))) (tTest (tOp xGt (tVar 1) (tC (.int 40))))))) (tVar 1) [1]) tNil)) (tC (.int 0)))) (tRet (tC (.bl false))) tNext)
    (tRet (tOp rNe (tOp (rIxT K) (tVar 0) (tC (.int 0))) (tOp (rIxT K) (tVar 0) (tC (.int 1)))))))
theorem pure_law_is_way {v0 : V} {H : Hp} {Q : VK} {E : XK} (h : pr_law_is_way K v0 H Q E) : t_law_is_way K ⟨fun _ H' => Q .non H', Q, fun _ _ => False, fun _ _ => False⟩ [some v0, none] H := by
  obtain ⟨p, x, y, rfl, hp, ⟨w1, w2, w3, w4, w5⟩, q⟩ := h
  have w4' : x < 41 := w4
  have w5' : y < 41 := w5
  have all : ∀ z ∈ [x, y], 0 ≤ z ∧ z ≤ 40 := fun z hz => by
    simp only [List.mem_cons, List.not_mem_nil, or_false] at hz
    rcases hz with rfl | rfl <;> omega
  unfold t_law_is_way
  wtm_at "s"
  refine k_isi (ty_tup hp) (b := true) (by decide +kernel) ?_
  wtm_at "s"
  refine k_lenT hp ?_
  rw [show (([V.int x, V.int y].length : Nat) : Int) = 2 from rfl]
  wtm_at "s"
  refine lc_growT hp [x, y] rfl (by simp) (fun _ => none) ?_ (fun D H2 nD s2 eD => ?_)
  · intro i x' z H' hx hz sm R R0 h1 h2
    obtain rfl : x' = .int z := by
      have : ([x, y].map V.int)[i]? = some x' := hx
      rw [List.getElem?_map, hz] at this
      exact (Option.some.inj this).symm
    have hz' := all z (List.mem_of_getElem? hz)
    wtm_at "s"
    exact h2 _ rfl (Same.refl _)
  · have hp2 := same_seqT s2 hp
    have eD' : H2 D = some (.lst []) := eD
    wtm_at "s"
    rw [decide_eq_false w1]
    exact q H2 s2
abbrev sp_law_is_way (K : PySem.W.Frag) : Sp := fun vs H Q E => ∃ v0, vs = [v0] ∧ pr_law_is_way K v0 H Q E
theorem ok_law_is_way (T : Txt K mg A) : FnOk P w K mg base CX0 1 A.a_law_is_way A.d_law_is_way ["_law_way"] (sp_law_is_way K) := by
  refine T.F_law_is_way.ok sc_law_is_way (fun vs H Q E h => by obtain ⟨v0, rfl, _⟩ := h; rfl) (fun cdv A0 outer s H vs Q E hr h => ?_)
  obtain ⟨v0, rfl, h⟩ := h
  exact ⟨t_law_is_way K, (pss_cons (ps_if (PW.pt (pw_or (pt_not (pt_val (pe_callB q_isi (by rfl) T.z_isinstance (by decide +kernel) (pa_cons (pv 0) (pa_cons (pe_bltn (v := .ty "tuple") (by rfl) T.z_tuple (by decide +kernel) rfl) pa_nil))))) (pw_or1 (pt_cmpR op_ne (pe_callB q_len (by rfl) T.z_len (by decide +kernel) (pa_cons (pv 0) pa_nil)) pe_int (nomark _))))) (pss_one (ps_ret pe_bl)) pss_nil)
      (pss_cons (ps_if (pt_cmpR op_gt (pe_callB q_len (by rfl) T.z_len (by decide +kernel) (pa_cons (pe_lc (own := [("_law_end", 1)]) (by rfl) sc_law_is_way.nd (pi_tup (pv 0)) (blkOk_by (own := [("_law_end", 1)]) (N := ["_law_way", "_law_end"]) (sc := defScope s_law_is_way) (by decide +kernel)) (fun _ _ _ _ _ => (pg_name (i := 1) sc_law_is_way.nd rfl (Or.inl rfl))) (fun _ _ _ _ _ => (pts_one (PW.pt (pw_or (pt_val (pe_callB q_isi (by rfl) T.z_isinstance (by decide +kernel) (pa_cons (pv 1) (pa_cons (pe_bltn (v := .ty "bool") (by rfl) T.z_bool (by decide +kernel) rfl) pa_nil)))) (pw_or (pt_not (pt_val (pe_callB q_isi (by rfl) T.z_isinstance (by decide +kernel) (pa_cons (pv 1) (pa_cons (pe_bltn (v := .ty "int") (by rfl) T.z_int (by decide +kernel) rfl) pa_nil))))) (pw_or (pt_cmpR op_lt (pv 1) pe_int (nomark _)) (pw_or1 (pt_cmpR op_gt (pv 1) pe_int (nomark _))))))))) (fun _ _ _ _ _ => (pv 1))) pa_nil)) pe_int (nomark _)) (pss_one (ps_ret pe_bl)) pss_nil)
      (pss_one (ps_ret (pe_cmpR op_ne (pe_ix ix_tup (pv 0) pe_int (fun _ _ => rfl)) (pe_ix ix_tup (pv 0) pe_int (fun _ _ => rfl)) (nomark _)))))), pure_law_is_way h⟩


/-- the law's outer loop: over [c] + script[:z] -/
theorem law_frameN {BODY : TS} {c z : Int} {N : Nat} {m : Nat} {a : Addr} {ns : List Int} {H : Hp} {Q : VK} {n0 : L2.St → Hp → Prop} {bk ct : L2.St → Hp → Prop} (hz : z = N) (hn : ns.length ≤ 63) (ha : SqL K H a (ns.map V.int)) (q : ∀ H', Q (.bl true) H')
    (body : ∀ (cell : Int) (l : List (Option V)) (H3 H4 : Hp) (nx : L2.St → Hp → Prop), l.length = m → Same H3 H4 →
      BODY ⟨fun σ' H' => Same H3 H' ∧ ∃ l' : List (Option V), l'.length = m + 1 ∧ σ' = some (.ref a) :: l', Q, nx, fun σ' H' => Same H3 H' ∧ ∃ l' : List (Option V), l'.length = m + 1 ∧ σ' = some (.ref a) :: l'⟩ (some (.ref a) :: some (.int cell) :: l) H4) :
    tSeq (tFor (iList K (tOp rCat (tLst (tCons (tC (.int c)) tNil)) (tSl (rSlL K) (tVar 0) tNoPart (tPart (tC (.int z)))))) (gName 1) BODY) (tRet (tC (.bl true))) ⟨n0, Q, bk, ct⟩ (some (.ref a) :: List.replicate (m + 1) none) H := by
  wtm_at "s"
  refine ⟨sz (by simp), fun l1 n1 => ?_⟩
  have s1 := same_new (o := .lst [.int c]) n1
  have e1 := upd_same (H := H) (a := l1) (o := .lst [.int c])
  generalize upd H l1 (.lst [.int c]) = H1 at s1 e1 ⊢
  wtm_at "s"
  refine ⟨a, _, rfl, s1.seq ha, fun l2 n2 => ?_⟩
  rw [hz, cutTo N]
  have s2 := same_new (o := .lst ((ns.take N).map V.int)) n2
  have e2 := upd_same (H := H1) (a := l2) (o := .lst ((ns.take N).map V.int))
  generalize upd H1 l2 (.lst ((ns.take N).map V.int)) = H2 at s2 e2 ⊢
  refine k_cat (s2 _ _ e1) e2 (by simp; omega) (fun l3 n3 => ?_)
  have e3 : upd H2 l3 (.lst ([.int c] ++ (ns.take N).map V.int)) l3 = some (.lst ((c :: ns.take N).map V.int)) := upd_same
  generalize upd H2 l3 (.lst ([.int c] ++ (ns.take N).map V.int)) = H3 at e3 ⊢
  wtm_at "s"
  refine forL (sl e3) (fun i σ' H' => Same H3 H' ∧ ∃ l' : List (Option V), l'.length = m + 1 ∧ σ' = some (.ref a) :: l') ⟨Same.refl _, List.replicate (m + 1) none, by simp, rfl⟩ (fun i σ' H' _ e => e.1.seq (sl e3)) ?_ ?_
  · rintro i x σ' H4 hx ⟨sm, l', hl', rfl⟩
    rw [List.getElem?_map] at hx
    obtain ⟨cell, _, rfl⟩ := Option.map_eq_some_iff.mp hx
    cases l' with
    | nil => simp at hl'
    | cons y l => exact body cell l H3 H4 _ (by simpa using hl') sm
  · rintro σ' H' ⟨sm, l', hl', rfl⟩
    wtm_at "s"
    exact q _

theorem cut_back (ys : List V) (z : V) : cutV (ys ++ [z]) none (some (-1)) = ys := by
  unfold cutV
  have e : HT.sIx (ys ++ [z]).length (ys ++ [z]).length (some (-1)) = ys.length := by
    unfold HT.sIx
    simp
    omega
  rw [e, HT.sIx_none, List.drop_zero, Nat.sub_zero, List.take_left]
theorem fm_count {α : Type} (p : α → Bool) (c : V) : ∀ l : List α, (l.filterMap fun w => if p w = true then some c else none).length = l.countP p
  | [] => rfl
  | x :: r => by
    rw [List.countP_cons, List.filterMap_cons]
    by_cases h : p x = true
    · rw [if_pos h, if_pos h, List.length_cons, fm_count p c r]
    · rw [if_neg h, if_neg h, fm_count p c r]; rfl

def sp_law (K : PySem.W.Frag) : Sp := fun vs H Q _ => ∃ (a : Addr) (ns : List Int), vs = [.ref a] ∧ SqL K H a (ns.map V.int) ∧ ns.length ≤ 63 ∧ ∀ H', Q (.bl true) H'
def t_law (K : PySem.W.Frag) (A : Ad) : TS :=
  (tSeq (tFor (iList K (tOp rCat (tLst (tCons (tC (.int 0)) tNil)) (tSl (rSlL K) (tVar 0) tNoPart (tPart (tC (.int 63)))))) (gName 1)
      (tSeq (tAsg (tCall (sp_law_left K) [] E0 (tCons (tLst (tCons (tVar 1) tNil)) (tCons (tC (.int 0)) tNil))) (gName 2))
    (tSeq (tAsg (tCall (sp_law_draw K) [] E0 (tCons (tVar 2) (tCons (tC (.int 16)) tNil))) (gName 3))
    (tSeq (tAsg (tOp (rIxL K) (tLst (tCons (tC (.int 1)) (tCons (tOp xAdd (tOp xPow (tC (.int 10)) (tC (.int 27))) (tC (.int 7))) tNil))) (tCall (sp_law_draw K) [] E0 (tCons (tVar 2) (tCons (tC (.int 2)) tNil)))) (gName 4))
    (tSeq (tAsg (tLst tNil) (gName 5))
    (tSeq (tAsg (tLst tNil) (gName 6))
    (tSeq (tFor (iRng1 (tCons (tC (.int 15)) tNil)) (gName 7)
      (tSeq (tAsg (tLc (iList K (tVar 6)) (gName 11) tYes (tOp xMul (tVar 4) (tVar 11)) [11]) (gName 8))
    (tSeq (tAsg (tLst (tCons (tCB (rListOf K) (tCons (tVar 5) tNil)) (tCons (tCB (rListOf K) (tCons (tVar 8) tNil)) tNil))) (gName 9))
    (tSeq (tAsg (tCall (sp_next_way K A) [] E0 (tCons (tOp (rIxL K) (tVar 9) (tC (.int 0))) (tCons (tOp (rIxL K) (tVar 9) (tC (.int 1))) tNil))) (gName 10))
    (tSeq (tIfS (tOr (tTest (tOp (rNeD K) (tVar 9) (tLst (tCons (tVar 5) (tCons (tVar 8) tNil))))) (tTest (tOp (rNeD K) (tCall (sp_next_way K A) [] E0 (tCons (tCB (rListOf K) (tCons (tVar 5) tNil)) (tCons (tCB (rListOf K) (tCons (tVar 8) tNil)) tNil))) (tVar 10)))) (tRet (tC (.bl false))) tNext)
    (tSeq (tIfS (tTest (tOp rNe (tOp xIsN (tVar 10) (tC .non)) (tOp xGt (tLenU K (tVar 6)) (tC (.int 3))))) (tRet (tC (.bl false))) tNext)
    (tSeq (tIfS (tTest (tOp xIsN (tVar 10) (tC .non))) tBreak tNext)
    (tSeq (tIfS (tOr (tNot (tB (tCall (sp_law_is_way K) [] E0 (tCons (tVar 10) tNil)))) (tTest (tOp rEq (tCB (rLen K) (tCons (tVar 5) tNil)) (tC (.int 14))))) (tRet (tC (.bl false))) tNext)
    (tSeq (tDrop (tBM K "list" rAppend (tVar 5) (tCons (tVar 10) tNil)))
    (tSeq (tIfS (tTest (tOp xGt (tCB (rMax K) (tCons (tLc (iRng1 (tCons (tC (.int 40)) tNil)) (gName 12) tYes (tCB (rLen K) (tCons (tLc (iList K (tVar 5)) (gName 13) (tAnd (tTest (tOp xLe (tCB (rMinT K) (tCons (tVar 13) tNil)) (tVar 12))) (tTest (tOp xLt (tVar 12) (tCB (rMaxT K) (tCons (tVar 13) tNil))))) (tC (.int 1)) [13]) tNil)) [12]) tNil)) (tC (.int 2)))) (tRet (tC (.bl false))) tNext)
    (tDrop (tBM K "list" rAppend (tVar 6) (tCons (tCall (sp_law_hue K) [] E0 (tCons (tVar 2) (tCons (tVar 10) (tCons (tSl (rSlL K) (tVar 5) tNoPart (tPart (tUn xNeg (tC (.int 1))))) (tCons (tVar 6) (tCons (tVar 3) tNil)))))) tNil)))))))))))))
    (tIfS (tTest (tOp xLt (tLenU K (tVar 6)) (tC (.int 4)))) (tRet (tC (.bl false))) tNext))))))))
    (tRet (tC (.bl true))))
theorem pure_law (T : Txt K mg A) {v0 : V} {H : Hp} {Q : VK} (h : ∃ (a : Addr) (ns : List Int), v0 = .ref a ∧ SqL K H a (ns.map V.int) ∧ ns.length ≤ 63 ∧ ∀ H', Q (.bl true) H') : t_law K A ⟨fun _ H' => Q .non H', Q, fun _ _ => False, fun _ _ => False⟩ [some v0, none, none, none, none, none, none, none, none, none, none, none, none, none] H := by
  obtain ⟨a, ns, rfl, ha, hz, q⟩ := h
  unfold t_law
  refine law_frameN (m := 12) (N := 63) rfl hz ha q ?_
  clear ha hz q H ns
  intro cell l H3 H4 nx hl sm
  match l, hl with
  | [k2, k3, k4, k5, k6, k7, k8, k9, k10, k11, k12, k13], _ =>
  wtm_at "s"
  refine kL (by simp) (fun cl H5 ncl s5 e5 => ?_)
  wtm_at "s"
  refine ⟨_, _, rfl, cl, [cell], 0, rfl, rfl, sl e5, by decide, fun pu H6 npu s6 L6 => ?_⟩
  have h0 : Same H4 (hid [pu] H6) := s5.trans ((hid_free1 npu).trans (hid_mono s6))
  wtm_at "s"
  refine ⟨_, _, rfl, pu, _, 16, rfl, rfl, L6, by omega, by decide, by decide, fun mn H7 mn0 mn1 L7 S7 => ?_⟩
  wtm_at "s"
  refine kL (by simp) (fun ul H8 nul s8 eul => ?_)
  have L8 := L7.same s8
  have nul' := L7.fresh nul
  wtm_at "s"
  refine ⟨_, _, rfl, pu, _, 2, rfl, rfl, L8, by omega, by decide, by decide, fun r H9 r0 r1 L9 S9 => ?_⟩
  have eul9 : H9 ul = some (.lst (List.map V.int [1, 10 ^ (27 : Int).toNat + 7])) := keeps S9 eul nul'
  refine k_ixI (sl eul9) r0 (by simp only [List.length_cons, List.length_nil]; omega) ?_
  have hu := getD_memI (ns := [1, (10 : Int) ^ (27 : Int).toNat + 7]) r0 (by simp only [List.length_cons, List.length_nil]; omega)
  generalize ([1, (10 : Int) ^ (27 : Int).toNat + 7] : List Int).getD r.toNat 0 = u at hu ⊢
  have hu0 : 0 < u := by
    simp only [List.mem_cons, List.not_mem_nil, or_false] at hu
    rcases hu with rfl | rfl
    · decide
    · decide +kernel
  have s39 : Same H3 (hid [pu] H9) := sm.trans (h0.trans (S7.trans ((hid_mono s8).trans S9)))
  clear S9 s8 S7 h0 s6 s5 e5 sm eul eul9 L7 L8 L6 nul nul'
  wtm_at "s"
  refine kL (by simp) (fun wl HA nwl sA eA => ?_)
  have LA := L9.same sA
  have nwl' := L9.fresh nwl
  wtm_at "s"
  refine kL (by simp) (fun hl HB nhl sB eB => ?_)
  have LB := LA.same sB
  have nhl' := LA.fresh nhl
  have nhl0 := sA.free nhl
  have ne : wl ≠ hl := fun e => by rw [← e, eA] at nhl; cases nhl
  have frw : hid [pu] H9 wl = none := by rw [hid_ne nwl']; exact nwl
  have frh : hid [pu] H9 hl = none := by rw [hid_ne nhl']; exact nhl0
  wtm_at "s"
  refine forR (fun i σ' H' => ∃ kk ws hs ys k7 k8 k9 k10, Le H' pu kk ∧ kk ≤ 100 + (i : Nat) ∧ Same (hid [pu] H9) (hid [pu] H') ∧ H' wl = some (.lst ys) ∧ H' hl = some (.lst (List.map V.int hs)) ∧ DpAll K (hid [pu, wl, hl] H') ys (List.map dPair ws) ∧ Game ws hs ∧ (∀ h ∈ hs, h ≤ 40) ∧ ws.length = i ∧ i ≤ 14 ∧ σ' = [some (.ref a), some (.int cell), some (.ref pu), some (.int mn), some (.int u), some (.ref wl), some (.ref hl), k7, k8, k9, k10, k11, k12, k13])
    ⟨_, [], [], [], _, _, _, _, LB, by omega, (hid_mono sA).trans (hid_mono sB), sB _ _ eA, eB, .nil, ⟨rfl, (fun h z => by cases z), (fun k z => absurd z (by simp)), (fun i j z => absurd z.2.1 (by simp))⟩, (fun h z => by cases z), rfl, by decide, rfl⟩ ?_ ?_
  · rintro i σ' H4 hi ⟨kk, ws, hs, ys, k7, k8, k9, k10, L4, hkk, S4, ew, eh, dy, g, h40, lw, i14, rfl⟩
    clear sB sA eA eB LA LB
    have ly := dpa_len dy
    rw [List.length_map] at ly
    have lh : hs.length = ws.length := g.1
    have gm := g.mul hu0
    have dy4 : DpAll K H4 ys (ws.map dPair) := dpa_same (hid_same _ _) dy
    wtm_at "s"
    refine lc_pure (sl eh) hs (by simp) (by omega) (fun z => some (V.int (u * z))) ?_ (fun tl H5 ntl s5 e5 => ?_)
    · intro i x' z H' hx hp sm R R0 h1 h2
      rw [List.getElem?_map, hp] at hx
      cases hx
      have z1 := h40 z (List.mem_of_getElem? hp)
      have z0 := g.2.1 z (List.mem_of_getElem? hp)
      wtm_at "s"
      exact h1 _ rfl
    have e5' : H5 tl = some (.lst (List.map V.int (hs.map (u * ·)))) := by
      rw [e5, show (fun z => some (V.int (u * z))) = some ∘ (fun z : Int => V.int (u * z)) from rfl, List.filterMap_eq_map, List.map_map]; rfl
    have wm := way_mul hu0 hs
    have lt : (hs.map (u * ·)).length = hs.length := by simp
    generalize hs.map (u * ·) = us at e5' gm wm lt
    wtm_at "s"
    refine k_listN (ys := ys) (sl (s5 _ _ ew)) (fun w1 H6 nw1 s6 e6 => ?_)
    wtm_at "s"
    refine k_listN (ys := us.map V.int) (sl (s6 _ _ e5')) (fun w2 H7 nw2 s7 e7 => ?_)
    wtm_at "s"
    refine kL (by simp) (fun hn H8 nhn s8 e8 => ?_)
    have s48 : Same H4 H8 := s5.trans (s6.trans (s7.trans s8))
    have d1 : Dp K H8 (.ref w1) (dPairs ws) := .lst (sl_at e6 (s7.trans s8)) (dpa_same s48 dy4)
    have d2 : Dp K H8 (.ref w2) (dInts us) := dpI_at e7 s8
    have d3 : Dp K H8 (.ref wl) (dPairs ws) := .lst (sl (s48 _ _ ew)) (dpa_same s48 dy4)
    have d4 : Dp K H8 (.ref tl) (dInts us) := dpI_at e5' (s6.trans (s7.trans s8))
    have e58 : H8 tl = some (.lst (List.map V.int us)) := (s6.trans (s7.trans s8)) _ _ e5'
    have L8 := L4.same s48
    clear s5 e5 e5' s6 e6 s7 e7 s8
    wtm_at "s"
    refine k_ixL (sl e8) rfl ?_
    wtm_at "s"
    refine k_ixL (sl e8) rfl ?_
    refine ⟨_, _, rfl, ws, us, d1, d2, by omega, by omega, next_told gm (fun hn0 HC sC => ?_) (fun x y hn0 p HC np sC ep => ?_)⟩
    · wtm_at "s"
      refine kL (by simp) (fun o1 HD no1 sD eo1 => ?_)
      have sCD := sC.trans sD
      refine k_neD0 (n := 4) (c := .list [dPairs ws, dInts us]) (.lst (sl_at e8 sCD) (.cons (dp_same sCD d1) (.cons (dp_same sCD d2) .nil))) (.lst (sl eo1) (.cons (dp_same sCD d3) (.cons (dp_same sCD d4) .nil))) (sh_l2 (sh_pairs _) (sh_ints _)) (by decide) ?_
      wtm_at "s"
      refine k_listN (ys := ys) (sl ((s48.trans sCD) _ _ ew)) (fun v1 HE nv1 sE ev1 => ?_)
      wtm_at "s"
      refine k_listN (ys := us.map V.int) (sl ((sCD.trans sE) _ _ e58)) (fun v2 HF nv2 sF ev2 => ?_)
      have s8F : Same H8 HF := sCD.trans (sE.trans sF)
      wtm_at "s"
      refine ⟨_, _, rfl, ws, us, .lst (sl_at ev1 sF) (dpa_same (s48.trans s8F) dy4), dpI_at ev2 (Same.refl _), by omega, by omega, next_told gm (fun _ HG sG => ?_) (fun x y z => absurd (hn0.symm.trans z) (by simp))⟩
      have s4G : Same H4 HG := s48.trans (s8F.trans sG)
      have u4 : 4 ≤ unl hs := by
        by_cases c : unl hs < 4
        · exact absurd (wm.symm.trans hn0) (forced g c)
        · omega
      wtm_at "s"
      refine k_neD0 (n := 4) (c := .none) .non .non ⟨by decide, by decide⟩ (by decide) ?_
      wtm_at "s"
      refine ⟨hl, hs, rfl, sl (s4G _ _ eh), by omega, ?_⟩
      wtm_at "s"
      rw [decide_eq_true (show (3 : Int) < (unl hs : Nat) by omega)]
      wtm_at "s"
      refine ⟨hl, hs, rfl, sl (s4G _ _ eh), by omega, ?_⟩
      wtm_at "s"
      exact ⟨s39.trans (S4.trans ((hid_mono s4G).trans (hid_same _ _))), _, rfl, rfl⟩
    · wtm_at "s"
      refine kL (by simp) (fun o1 HD no1 sD eo1 => ?_)
      have sCD := sC.trans sD
      refine k_neD0 (n := 4) (c := .list [dPairs ws, dInts us]) (.lst (sl_at e8 sCD) (.cons (dp_same sCD d1) (.cons (dp_same sCD d2) .nil))) (.lst (sl eo1) (.cons (dp_same sCD d3) (.cons (dp_same sCD d4) .nil))) (sh_l2 (sh_pairs _) (sh_ints _)) (by decide) ?_
      wtm_at "s"
      refine k_listN (ys := ys) (sl ((s48.trans sCD) _ _ ew)) (fun v1 HE nv1 sE ev1 => ?_)
      wtm_at "s"
      refine k_listN (ys := us.map V.int) (sl ((sCD.trans sE) _ _ e58)) (fun v2 HF nv2 sF ev2 => ?_)
      have s8F : Same H8 HF := sCD.trans (sE.trans sF)
      wtm_at "s"
      refine ⟨_, _, rfl, ws, us, .lst (sl_at ev1 sF) (dpa_same (s48.trans s8F) dy4), dpI_at ev2 (Same.refl _), by omega, by omega, next_told gm (fun z => absurd (hn0.symm.trans z) (by simp)) (fun x' y' hn1 p' HG np' sG ep' => ?_)⟩
      obtain ⟨rfl, rfl⟩ : x = x' ∧ y = y' := by
        have := hn0.symm.trans hn1
        simpa using this
      have s4G : Same H4 HG := s48.trans (s8F.trans sG)
      have hw : wayFor hs = some (x, y) := wm.symm.trans hn0
      obtain ⟨un, wok⟩ := way_isWay hw
      have epG : HG p = some (.tup [.int x, .int y]) := (sD.trans (sE.trans (sF.trans sG))) _ _ ep
      wtm_at "s"
      refine k_neD0 (n := 4) (c := dPair (x, y)) (dp_of_pair (stp ep')) (dp_of_pair (stp epG)) (sh_pair _) (by decide) ?_
      wtm_at "s"
      refine ⟨hl, hs, rfl, sl (s4G _ _ eh), by omega, ?_⟩
      wtm_at "s"
      rw [decide_eq_false (show ¬ (3 : Int) < (unl hs : Nat) by omega)]
      wtm_at "s"
      refine ⟨_, rfl, p, x, y, rfl, stp epG, wok, fun HI sI => ?_⟩
      have s4I := s4G.trans sI
      have l14 := way_len hw
      have epI := sI _ _ epG
      wtm_at "s"
      refine k_tyL (sl (s4I _ _ ew)) ?_
      wtm_at "s"
      refine k_append (s4I _ _ ew) (by omega) ?_
      have np4 := (s48).free np
      have pw : p ≠ wl := fun e => by rw [e, ew] at np4; cases np4
      have ph : p ≠ hl := fun e => by rw [e, eh] at np4; cases np4
      have pp : p ∉ [pu] := L4.fresh np4
      have ewJ : upd HI wl (.lst (ys ++ [.ref p])) wl = some (.lst (ys ++ [.ref p])) := upd_same
      have ehJ : upd HI wl (.lst (ys ++ [.ref p])) hl = some (.lst (List.map V.int hs)) := by rw [upd_ne (fun e => ne e.symm)]; exact s4I _ _ eh
      have LJ : Le (upd HI wl (.lst (ys ++ [.ref p]))) pu kk := (L4.same s4I).upd nwl'
      have SJ : Same (hid [pu] H9) (hid [pu] (upd HI wl (.lst (ys ++ [.ref p])))) := same_hid_mut (S4.trans (hid_mono s4I)) frw
      have epJ : upd HI wl (.lst (ys ++ [.ref p])) p = some (.tup [.int x, .int y]) := by rw [upd_ne pw]; exact epI
      have dyJ0 : DpAll K (hid [pu, wl, hl] (upd HI wl (.lst (ys ++ [.ref p])))) ys (ws.map dPair) := by
        rw [hid_upd (by simp)]
        exact dpa_same (hid_mono s4I) dy
      have epS : hid [pu, wl, hl] (upd HI wl (.lst (ys ++ [.ref p]))) p = some (.tup [.int x, .int y]) := by
        rw [hid_ne]
        · exact epJ
        · intro z
          rcases List.mem_cons.mp z with z | z
          · exact pp (by rw [z]; simp)
          · rcases List.mem_cons.mp z with z | z
            · exact pw z
            · rcases List.mem_cons.mp z with z | z
              · exact ph z
              · cases z
      have dyJ : DpAll K (hid [pu, wl, hl] (upd HI wl (.lst (ys ++ [.ref p])))) (ys ++ [.ref p]) ((ws ++ [(x, y)]).map dPair) := by
        rw [List.map_append]
        exact dpa_app dyJ0 (.cons (dp_of_pair (stp epS)) .nil)
      generalize upd HI wl (.lst (ys ++ [.ref p])) = HJ at ewJ ehJ LJ SJ epJ dyJ0 epS dyJ ⊢
      have dyJ1 : DpAll K HJ (ys ++ [.ref p]) ((ws ++ [(x, y)]).map dPair) := dpa_same (hid_same _ _) dyJ
      clear sI epI epG s4I s4G sG ep' np' np sF sE sD sC sCD s8F ev1 ev2 eo1 e58 d1 d2 d3 d4 e8 s48 L8 ep
      wtm_at "s"
      refine lc_growR (by decide) (fun t => some (V.int (((ws ++ [(x, y)]).countP (onT (t : Nat)) : Nat) : Int))) ?_ (fun D HK nD sK eD => ?_)
      · intro t H' ht sm R R0 h1 h2
        rw [Int.zero_add]
        wtm_at "s"
        refine lc_pure (sl (sm _ _ ewJ)) (ws ++ [(x, y)]) (by simp; omega) (by simp; omega) (fun w => if onT (t : Nat) w = true then some (V.int 1) else none) ?_ (fun D2 HL nD2 sL eD2 => ?_)
        · intro j xv w H'' hx hw' sm2 R' R0' h1' h2'
          obtain ⟨w2, cw, hw2, rfl, hcw⟩ := dpairs_get dyJ1 hx
          obtain rfl : w2 = w := Option.some.inj (hw2.symm.trans hw')
          have hc2 := same_seqT (sm.trans sm2) hcw
          wtm_at "s"
          refine k_it (fun c1 => ?_) (fun c1 => ?_)
          · wtm_at "s"
            refine k_it (fun c2 => ?_) (fun c2 => ?_)
            · wtm_at "s"
              exact h1' _ (by rw [if_pos (by unfold onT; simp [c1, c2])])
            · exact h2' (by rw [if_neg (by unfold onT; simp [c2])])
          · exact h2' (by rw [if_neg (by unfold onT; simp [c1])])
        · refine k_len (sl eD2) ?_
          rw [fm_count]
          exact h1 _ _ rfl sL
      have eD' : HK D = some (.lst (List.map V.int ((List.range 40).map fun t : Nat => (((ws ++ [(x, y)]).countP (onT (t : Nat)) : Nat) : Int)))) := by
        rw [eD, show (fun t : Nat => some (V.int (((ws ++ [(x, y)]).countP (onT (t : Nat)) : Nat) : Int))) = some ∘ (fun t : Nat => V.int (((ws ++ [(x, y)]).countP (onT (t : Nat)) : Nat) : Int)) from rfl, List.filterMap_eq_map, List.map_map]; rfl
      wtm_at "s"
      refine k_max (sl eD') (by rw [List.length_map, List.length_range]; decide) (fun m' m1' _ => ?_)
      have m2 : m' ≤ 2 := by
        obtain ⟨t, _, rfl⟩ := List.mem_map.mp m1'
        have := load_two g hw (t : Nat)
        omega
      wtm_at "s"
      refine k_tyL (sl (sK _ _ ehJ)) ?_
      wtm_at "s"
      refine k_slL (xs := ys ++ [.ref p]) (sl (sK _ _ ewJ)) (fun s1 HM ns1 sM eM => ?_)
      rw [cut_back] at eM
      have sJM := sK.trans sM
      have LM := LJ.same sJM
      have ns1' := (LJ.same sK).fresh ns1
      wtm_at "s"
      refine ⟨_, _, _, _, _, rfl, pu, p, s1, hl, kk, x, y, ws, hs, ys, mn, rfl, rfl, rfl, rfl, rfl, LM, by omega, hat pp (sJM _ _ epJ), hat ns1' eM, dpa_same ((hid_sub (by simp)).trans (hid_mono sJM)) dyJ0, hat nhl' (sJM _ _ ehJ), lh, by omega, mn0, mn1, un, fun h k' HN h0 h1 hm LN hk' SN => ?_⟩
      have ehN : HN hl = some (.lst (List.map V.int hs)) := keeps SN (sJM _ _ ehJ) nhl'
      have ewN : HN wl = some (.lst (ys ++ [.ref p])) := keeps SN (sJM _ _ ewJ) nwl'
      wtm_at "s"
      refine k_append ehN (by simp; omega) ?_
      refine ⟨k', ws ++ [(x, y)], hs ++ [h], ys ++ [.ref p], _, _, _, _, LN.upd nhl', by omega, same_hid_mut ((SJ.trans (hid_mono sJM)).trans SN) frh, ?_, ?_, ?_, g.more hw h0 hm, ?_, by simp; omega, by omega, rfl⟩
      · rw [upd_ne ne]; exact ewN
      · rw [upd_same, List.map_append]; rfl
      · rw [hid_upd (by simp)]
        exact dpa_same ((hid_mono sJM).trans (hid_more SN (by simp))) dyJ
      · intro z hz
        rcases List.mem_append.mp hz with hz | hz
        · exact h40 z hz
        · rw [List.mem_singleton.mp hz]; exact h1
  · rintro σ' H4 ⟨kk, ws, hs, ys, k7, k8, k9, k10, L4, hkk, S4, ew, eh, dy, g, h40, lw, i14, rfl⟩
    exact absurd i14 (by decide)
theorem ok_law (T : Txt K mg A) : FnOk P w K mg base CX0 4 A.a_law A.d_law ["_law_script"] (sp_law K) := by
  refine T.F_law.ok sc_law (fun vs H Q E h => by obtain ⟨a, ns, rfl, _⟩ := h; rfl) (fun cdv A0 outer s H vs Q E hr h => ?_)
  obtain ⟨a, ns, rfl, h⟩ := h
  exact ⟨t_law K A, (pss_cons (ps_for PassesOwn.never rfl (pi_list (pe_op op_cat (pe_lst (pa_cons pe_int pa_nil)) (pe_slice sl_list (pv 0) po_none (po_some pe_int)))) (pg_name (i := 1) sc_law.nd rfl (Or.inl rfl))
      (pss_cons (ps_set (i := 2) sc_law.nd rfl (Or.inl rfl) (pe_call (ok_law_left T) (hr.mono (by decide)) (by rfl) T.g_law_left T.F_law_left.kp T.b_law_left .nil pass0 (pa_cons (pe_lst (pa_cons (pv 1) pa_nil)) (pa_cons pe_int pa_nil))))
      (pss_cons (ps_set (i := 3) sc_law.nd rfl (Or.inl rfl) (pe_call (ok_law_draw T) (hr.mono (by decide)) (by rfl) T.g_law_draw T.F_law_draw.kp T.b_law_draw .nil pass0 (pa_cons (pv 2) (pa_cons pe_int pa_nil))))
      (pss_cons (ps_set (i := 4) sc_law.nd rfl (Or.inr rfl) (pe_ix ix_list (pe_lst (pa_cons pe_int (pa_cons (pe_op op_add (pe_op op_pow pe_int pe_int) pe_int) pa_nil))) (pe_call (ok_law_draw T) (hr.mono (by decide)) (by rfl) T.g_law_draw T.F_law_draw.kp T.b_law_draw .nil pass0 (pa_cons (pv 2) (pa_cons pe_int pa_nil))) (fun _ _ => rfl)))
      (pss_cons (ps_set (i := 5) sc_law.nd rfl (Or.inr rfl) (pe_lst pa_nil))
      (pss_cons (ps_set (i := 6) sc_law.nd rfl (Or.inl rfl) (pe_lst pa_nil))
      (pss_cons (ps_for PassesOwn.never rfl (pi_range1 (by rfl) T.z_range (pa_cons pe_int pa_nil)) (pg_name (i := 7) sc_law.nd rfl (Or.inl rfl))
      (pss_cons (ps_setLc (i := 8) (own := [("_law_hue_here", 11)]) (by rfl) sc_law.nd rfl rfl (sw_true rfl rfl rfl (by decide +kernel)) (pi_list (pv 6)) (blkOk_by (own := [("_law_hue_here", 11)]) (N := ["_law_script", "_law_cell", "_law_left_here", "_law_manner", "_law_unit", "_law_ways", "_law_hues", "_law_turn", "_law_told", "_law_handed", "_law_way", "_law_hue_here", "_law_tie", "_law_one"]) (sc := defScope s_law) (by decide +kernel)) (fun _ _ _ _ _ => (pg_name (i := 11) sc_law.nd rfl (Or.inl rfl))) (fun _ _ _ _ _ => pts_nil) (fun _ _ _ _ _ => (pe_op op_mul (pv 4) (pv 11))))
      (pss_cons (ps_set (i := 9) sc_law.nd rfl (Or.inl rfl) (pe_lst (pa_cons (pe_callTy q_listOf (by rfl) T.z_list (by decide +kernel) (pa_cons (pv 5) pa_nil)) (pa_cons (pe_callTy q_listOf (by rfl) T.z_list (by decide +kernel) (pa_cons (pv 8) pa_nil)) pa_nil))))
      (pss_cons (ps_set (i := 10) sc_law.nd rfl (Or.inl rfl) (pe_call (ok_next_way T) (hr.mono (by decide)) (by rfl) T.g_next_way T.F_next_way.kp T.b_next_way .nil passL (pa_cons (pe_ix ix_list (pv 9) pe_int (fun _ _ => rfl)) (pa_cons (pe_ix ix_list (pv 9) pe_int (fun _ _ => rfl)) pa_nil))))
      (pss_cons (ps_if (PW.pt (pw_or (pt_cmpR (op_neD hr.units) (pv 9) (pe_lst (pa_cons (pv 5) (pa_cons (pv 8) pa_nil))) (nomark _)) (pw_or1 (pt_cmpR (op_neD hr.units) (pe_call (ok_next_way T) (hr.mono (by decide)) (by rfl) T.g_next_way T.F_next_way.kp T.b_next_way .nil passL (pa_cons (pe_callTy q_listOf (by rfl) T.z_list (by decide +kernel) (pa_cons (pv 5) pa_nil)) (pa_cons (pe_callTy q_listOf (by rfl) T.z_list (by decide +kernel) (pa_cons (pv 8) pa_nil)) pa_nil))) (pv 10) (nomark _))))) (pss_one (ps_ret pe_bl)) pss_nil)
      (pss_cons (ps_if (pt_cmpR op_ne (pe_cmpR op_isN (pv 10) pe_non (nomark _)) (pe_cmpR op_gt (pe_lenU (by rfl) (by rfl) T.z_len (by rfl) T.z_set (pv 6)) pe_int (nomark _)) (nomark _)) (pss_one (ps_ret pe_bl)) pss_nil)
      (pss_cons (ps_if (pt_cmpR op_isN (pv 10) pe_non (nomark _)) (pss_one ps_break) pss_nil)
      (pss_cons (ps_if (PW.pt (pw_or (pt_not (pt_val (pe_call (ok_law_is_way T) (hr.mono (by decide)) (by rfl) T.g_law_is_way T.F_law_is_way.kp T.b_law_is_way .nil pass0 (pa_cons (pv 10) pa_nil)))) (pw_or1 (pt_cmpR op_eq (pe_callB q_len (by rfl) T.z_len (by decide +kernel) (pa_cons (pv 5) pa_nil)) pe_int (nomark _))))) (pss_one (ps_ret pe_bl)) pss_nil)
      (pss_cons (ps_expr (pe_bm PySem.F.plainAttrs_list PySem.F.slot_list_append PySem.F.type_list_append mt_append (pv 5) (pa_cons (pv 10) pa_nil)))
      (pss_cons (ps_if (pt_cmpR op_gt (pe_callB (cr_max (by rfl)) (by rfl) T.z_max (by decide +kernel) (pa_cons (pe_lc (own := [("_law_tie", 12)]) (by rfl) sc_law.nd (pi_range1 (by rfl) T.z_range (pa_cons pe_int pa_nil)) (blkOk_by (own := [("_law_tie", 12)]) (N := ["_law_script", "_law_cell", "_law_left_here", "_law_manner", "_law_unit", "_law_ways", "_law_hues", "_law_turn", "_law_told", "_law_handed", "_law_way", "_law_hue_here", "_law_tie", "_law_one"]) (sc := defScope s_law) (by decide +kernel)) (fun _ _ _ _ _ => (pg_name (i := 12) sc_law.nd rfl (Or.inr rfl))) (fun _ _ _ _ _ => pts_nil) (fun _ _ _ _ _ => (pe_callB q_len (by rfl) T.z_len (by decide +kernel) (pa_cons (pe_lc (own := [("_law_one", 13)]) (by rfl) sc_law.nd (pi_list (pv 5)) (blkOk_by (own := [("_law_one", 13)]) (N := ["_law_script", "_law_cell", "_law_left_here", "_law_manner", "_law_unit", "_law_ways", "_law_hues", "_law_turn", "_law_told", "_law_handed", "_law_way", "_law_hue_here", "_law_tie", "_law_one"]) (sc := { kind := PySem.ScopeKind.function, names := [ (PySem.Str.ofString ".0", PySem.NameKind.local), (PySem.Str.ofString "_law_tie", PySem.NameKind.cell), (PySem.Str.ofString "len", PySem.NameKind.globalImplicit), (PySem.Str.ofString "_law_ways", PySem.NameKind.cell)], isGenerator := false, isCoroutine := false, more := [] : PySem.Scope }) (by decide +kernel)) (fun _ _ _ _ _ => (pg_name (i := 13) sc_law.nd rfl (Or.inl rfl))) (fun _ _ _ _ _ => (pts_one (PW.pt (pw_and (pt_cmpR op_le (pe_callB (q_minT (by rfl) hr.units) (by rfl) T.z_min (by decide +kernel) (pa_cons (pv 13) pa_nil)) (pv 12) (nomark _)) (pw_and1 (pt_cmpR op_lt (pv 12) (pe_callB (q_maxT (by rfl) hr.units) (by rfl) T.z_max (by decide +kernel) (pa_cons (pv 13) pa_nil)) (nomark _))))))) (fun _ _ _ _ _ => pe_int)) pa_nil)))) pa_nil)) pe_int (nomark _)) (pss_one (ps_ret pe_bl)) pss_nil)
      (pss_one (ps_expr (pe_bm PySem.F.plainAttrs_list PySem.F.slot_list_append PySem.F.type_list_append mt_append (pv 6) (pa_cons (pe_call (ok_law_hue T) (hr.mono (by decide)) (by rfl) T.g_law_hue T.F_law_hue.kp T.b_law_hue .nil pass0 (pa_cons (pv 2) (pa_cons (pv 10) (pa_cons (pe_slice sl_list (pv 5) po_none (po_some (pe_un un_neg pe_int))) (pa_cons (pv 6) (pa_cons (pv 3) pa_nil)))))) pa_nil))))))))))))))
      (pss_one (ps_if (pt_cmpR op_lt (pe_lenU (by rfl) (by rfl) T.z_len (by rfl) T.z_set (pv 6)) pe_int (nomark _)) (pss_one (ps_ret pe_bl)) pss_nil)))))))))
      (pss_one (ps_ret pe_bl))), pure_law T ⟨a, ns, rfl, h⟩⟩

theorem all_mk {l : PySem.W.OpenLaw} {w : World} {K : PySem.W.Frag} {h : Heap} {mg : Str → Option Value} {fa : Addr} {f0 f1 f2 f3 f4 f5 f6 f7 f8 f9 f10 f11 f12 f13 : Addr} (X : K.In h) (G : h.Ns mainGlobals mg) (hfa : mg "law" = some (.ref fa))
    {od0 an0 od1 an1 od2 an2 od3 an3 od4 an4 od5 an5 od6 an6 od7 an7 od8 an8 od9 an9 od10 an10 od11 an11 od12 an12 od13 an13 : Option Addr} {sl0 sl1 sl2 sl3 sl4 sl5 sl6 sl7 sl8 sl9 sl10 sl11 sl12 sl13 : Array (Option Value)} {oc0 kV0 dc0 pm0 cd0 ct0 oc1 kV1 dc1 pm1 cd1 ct1 oc2 kV2 dc2 pm2 cd2 ct2 oc3 kV3 dc3 pm3 cd3 ct3 oc4 kV4 dc4 pm4 cd4 ct4 oc5 kV5 dc5 pm5 cd5 ct5 oc6 kV6 dc6 pm6 cd6 ct6 oc7 kV7 dc7 pm7 cd7 ct7 oc8 kV8 dc8 pm8 cd8 ct8 oc9 kV9 dc9 pm9 cd9 ct9 oc10 kV10 dc10 pm10 cd10 ct10 oc11 kV11 dc11 pm11 cd11 ct11 oc12 kV12 dc12 pm12 cd12 ct12 oc13 kV13 dc13 pm13 cd13 ct13 : Value}
    (a0 : PySem.W.nsIn K mainGlobals "ties_on" = some (some (.ref f0))) (l0 : K.lookup f0 = some ⟨oc0, od0, .func (PySem.W.fnOf "ties_on" "ties_on" (defArgs s_ties_on) (defBody s_ties_on) (defScope s_ties_on) .none kV0 dc0 pm0 an0 cd0 ct0), sl0⟩) (c0 : PySem.W.codeIn K cd0 "ties_on" = true) (k0 : PySem.W.keepIn K (.ref f0) = true)
    (a1 : PySem.W.nsIn K mainGlobals "first_clash" = some (some (.ref f1))) (l1 : K.lookup f1 = some ⟨oc1, od1, .func (PySem.W.fnOf "first_clash" "first_clash" (defArgs s_first_clash) (defBody s_first_clash) (defScope s_first_clash) .none kV1 dc1 pm1 an1 cd1 ct1), sl1⟩) (c1 : PySem.W.codeIn K cd1 "first_clash" = true) (k1 : PySem.W.keepIn K (.ref f1) = true)
    (a2 : PySem.W.nsIn K mainGlobals "used" = some (some (.ref f2))) (l2 : K.lookup f2 = some ⟨oc2, od2, .func (PySem.W.fnOf "used" "used" (defArgs s_used) (defBody s_used) (defScope s_used) .none kV2 dc2 pm2 an2 cd2 ct2), sl2⟩) (c2 : PySem.W.codeIn K cd2 "used" = true) (k2 : PySem.W.keepIn K (.ref f2) = true)
    (a3 : PySem.W.nsIn K mainGlobals "four_alike" = some (some (.ref f3))) (l3 : K.lookup f3 = some ⟨oc3, od3, .func (PySem.W.fnOf "four_alike" "four_alike" (defArgs s_four_alike) (defBody s_four_alike) (defScope s_four_alike) .none kV3 dc3 pm3 an3 cd3 ct3), sl3⟩) (c3 : PySem.W.codeIn K cd3 "four_alike" = true) (k3 : PySem.W.keepIn K (.ref f3) = true)
    (a4 : PySem.W.nsIn K mainGlobals "way_for" = some (some (.ref f4))) (l4 : K.lookup f4 = some ⟨oc4, od4, .func (PySem.W.fnOf "way_for" "way_for" (defArgs s_way_for) (defBody s_way_for) (defScope s_way_for) .none kV4 dc4 pm4 an4 cd4 ct4), sl4⟩) (c4 : PySem.W.codeIn K cd4 "way_for" = true) (k4 : PySem.W.keepIn K (.ref f4) = true)
    (a5 : PySem.W.nsIn K mainGlobals "next_way" = some (some (.ref f5))) (l5 : K.lookup f5 = some ⟨oc5, od5, .func (PySem.W.fnOf "next_way" "next_way" (defArgs s_next_way) (defBody s_next_way) (defScope s_next_way) .none kV5 dc5 pm5 an5 cd5 ct5), sl5⟩) (c5 : PySem.W.codeIn K cd5 "next_way" = true) (k5 : PySem.W.keepIn K (.ref f5) = true)
    (a6 : PySem.W.nsIn K mainGlobals "_law_mix" = some (some (.ref f6))) (l6 : K.lookup f6 = some ⟨oc6, od6, .func (PySem.W.fnOf "_law_mix" "_law_mix" (defArgs s_law_mix) (defBody s_law_mix) (defScope s_law_mix) .none kV6 dc6 pm6 an6 cd6 ct6), sl6⟩) (c6 : PySem.W.codeIn K cd6 "_law_mix" = true) (k6 : PySem.W.keepIn K (.ref f6) = true)
    (a7 : PySem.W.nsIn K mainGlobals "_law_cell_at" = some (some (.ref f7))) (l7 : K.lookup f7 = some ⟨oc7, od7, .func (PySem.W.fnOf "_law_cell_at" "_law_cell_at" (defArgs s_law_cell_at) (defBody s_law_cell_at) (defScope s_law_cell_at) .none kV7 dc7 pm7 an7 cd7 ct7), sl7⟩) (c7 : PySem.W.codeIn K cd7 "_law_cell_at" = true) (k7 : PySem.W.keepIn K (.ref f7) = true)
    (a8 : PySem.W.nsIn K mainGlobals "_law_left" = some (some (.ref f8))) (l8 : K.lookup f8 = some ⟨oc8, od8, .func (PySem.W.fnOf "_law_left" "_law_left" (defArgs s_law_left) (defBody s_law_left) (defScope s_law_left) .none kV8 dc8 pm8 an8 cd8 ct8), sl8⟩) (c8 : PySem.W.codeIn K cd8 "_law_left" = true) (k8 : PySem.W.keepIn K (.ref f8) = true)
    (a9 : PySem.W.nsIn K mainGlobals "_law_draw" = some (some (.ref f9))) (l9 : K.lookup f9 = some ⟨oc9, od9, .func (PySem.W.fnOf "_law_draw" "_law_draw" (defArgs s_law_draw) (defBody s_law_draw) (defScope s_law_draw) .none kV9 dc9 pm9 an9 cd9 ct9), sl9⟩) (c9 : PySem.W.codeIn K cd9 "_law_draw" = true) (k9 : PySem.W.keepIn K (.ref f9) = true)
    (a10 : PySem.W.nsIn K mainGlobals "_law_meet" = some (some (.ref f10))) (l10 : K.lookup f10 = some ⟨oc10, od10, .func (PySem.W.fnOf "_law_meet" "_law_meet" (defArgs s_law_meet) (defBody s_law_meet) (defScope s_law_meet) .none kV10 dc10 pm10 an10 cd10 ct10), sl10⟩) (c10 : PySem.W.codeIn K cd10 "_law_meet" = true) (k10 : PySem.W.keepIn K (.ref f10) = true)
    (a11 : PySem.W.nsIn K mainGlobals "_law_hue" = some (some (.ref f11))) (l11 : K.lookup f11 = some ⟨oc11, od11, .func (PySem.W.fnOf "_law_hue" "_law_hue" (defArgs s_law_hue) (defBody s_law_hue) (defScope s_law_hue) .none kV11 dc11 pm11 an11 cd11 ct11), sl11⟩) (c11 : PySem.W.codeIn K cd11 "_law_hue" = true) (k11 : PySem.W.keepIn K (.ref f11) = true)
    (a12 : PySem.W.nsIn K mainGlobals "_law_is_way" = some (some (.ref f12))) (l12 : K.lookup f12 = some ⟨oc12, od12, .func (PySem.W.fnOf "_law_is_way" "_law_is_way" (defArgs s_law_is_way) (defBody s_law_is_way) (defScope s_law_is_way) .none kV12 dc12 pm12 an12 cd12 ct12), sl12⟩) (c12 : PySem.W.codeIn K cd12 "_law_is_way" = true) (k12 : PySem.W.keepIn K (.ref f12) = true)
    (a13 : PySem.W.nsIn K mainGlobals "law" = some (some (.ref f13))) (l13 : K.lookup f13 = some ⟨oc13, od13, .func (PySem.W.fnOf "law" "law" (defArgs s_law) (defBody s_law) (defScope s_law) .none kV13 dc13 pm13 an13 cd13 ct13), sl13⟩) (c13 : PySem.W.codeIn K cd13 "law" = true) (k13 : PySem.W.keepIn K (.ref f13) = true)
    {tu0 : Addr} {tdi0 : Option Addr} {tn0 : Nat} {tsl0 : Array (Option Value)} {tt0_0 tt0_1 : Tok} (tc0 : PySem.W.nsIn K mainGlobals "LINE" = some (some (.ref tu0))) (tl0 : K.lookup tu0 = some ⟨.type "tuple", tdi0, .seq #[.str (Str.ofString "line") tt0_0, .int 41 tt0_1] tn0, tsl0⟩)
    (z0 : PySem.W.nsIn K mainGlobals "bool" = some none)
    (z1 : PySem.W.nsIn K mainGlobals "int" = some none)
    (z2 : PySem.W.nsIn K mainGlobals "isinstance" = some none)
    (z3 : PySem.W.nsIn K mainGlobals "len" = some none)
    (z4 : PySem.W.nsIn K mainGlobals "list" = some none)
    (z5 : PySem.W.nsIn K mainGlobals "max" = some none)
    (z6 : PySem.W.nsIn K mainGlobals "min" = some none)
    (z7 : PySem.W.nsIn K mainGlobals "range" = some none)
    (z8 : PySem.W.nsIn K mainGlobals "set" = some none)
    (z9 : PySem.W.nsIn K mainGlobals "sorted" = some none)
    (z10 : PySem.W.nsIn K mainGlobals "tuple" = some none)
    {cc0 cc1 cc2 : Addr}
    (kk0 : PySem.W.nsIn K mainGlobals "TieError" = some (some (.ref cc0))) (xx0 : exkB K cc0 = true) (tt0 : PySem.W.typeIn K (.ref cc0) = some (.type "type"))
    (kk1 : PySem.W.nsIn K mainGlobals "NoWay" = some (some (.ref cc1))) (xx1 : exkB K cc1 = true) (tt1 : PySem.W.typeIn K (.ref cc1) = some (.type "type"))
    (kk2 : PySem.W.nsIn K mainGlobals "NoHues" = some (some (.ref cc2))) (xx2 : exkB K cc2 = true) (tt2 : PySem.W.typeIn K (.ref cc2) = some (.type "type"))
    {nm1 q1 : Str} {N1 : Addr} {bs1 : List Value} {sn1 : List Str} {su1 : List Value} {ab1 : Bool} {co1 : Option Bool} {dd1 : Option Addr} {ma1 mb1 mc1 md1 me1 : Option Value} {fi1 : Addr} {odi1 ani1 : Option Addr} {sli1 : Array (Option Value)} {oci1 kVi1 dci1 pmi1 cdi1 cti1 : Value}
    (la1 : K.lookup cc1 = some (excClassObj nm1 q1 cc1 N1 bs1 [.ref cc0, .type "ValueError", .type "Exception", .type "BaseException", .type "object"] true sn1 su1 ab1 co1 dd1 ma1 mb1 mc1 md1 me1 "ValueError.__new__"))
    (sa1 : PySem.W.findIn K (.ref cc1) "__setattr__" = some (some (.builtin "object.__setattr__"))) (ee1 : PySem.W.subIn K (.ref cc1) (.type "BaseException") = some true) (ke1 : PySem.W.keepIn K (.ref cc1) = true)
    (ai1 : PySem.W.findIn K (.ref cc1) "__init__" = some (some (.ref fi1))) (ti1 : PySem.W.typeIn K (.ref fi1) = some (.type "function")) (li1 : K.lookup fi1 = some ⟨oci1, odi1, .func (PySem.W.fnOf "__init__" "NoWay.__init__" (defArgs s_init_NoWay) (defBody s_init_NoWay) (defScope s_init_NoWay) .none kVi1 dci1 pmi1 ani1 cdi1 cti1), sli1⟩) (ci1 : PySem.W.codeIn K cdi1 "NoWay.__init__" = true) (ki1 : PySem.W.keepIn K (.ref fi1) = true) (nf1 : PySem.W.findIn K (.ref cc1) "at" = some none)
    {nm2 q2 : Str} {N2 : Addr} {bs2 : List Value} {sn2 : List Str} {su2 : List Value} {ab2 : Bool} {co2 : Option Bool} {dd2 : Option Addr} {ma2 mb2 mc2 md2 me2 : Option Value} {fi2 : Addr} {odi2 ani2 : Option Addr} {sli2 : Array (Option Value)} {oci2 kVi2 dci2 pmi2 cdi2 cti2 : Value}
    (la2 : K.lookup cc2 = some (excClassObj nm2 q2 cc2 N2 bs2 [.ref cc0, .type "ValueError", .type "Exception", .type "BaseException", .type "object"] true sn2 su2 ab2 co2 dd2 ma2 mb2 mc2 md2 me2 "ValueError.__new__"))
    (sa2 : PySem.W.findIn K (.ref cc2) "__setattr__" = some (some (.builtin "object.__setattr__"))) (ee2 : PySem.W.subIn K (.ref cc2) (.type "BaseException") = some true) (ke2 : PySem.W.keepIn K (.ref cc2) = true)
    (ai2 : PySem.W.findIn K (.ref cc2) "__init__" = some (some (.ref fi2))) (ti2 : PySem.W.typeIn K (.ref fi2) = some (.type "function")) (li2 : K.lookup fi2 = some ⟨oci2, odi2, .func (PySem.W.fnOf "__init__" "NoHues.__init__" (defArgs s_init_NoHues) (defBody s_init_NoHues) (defScope s_init_NoHues) .none kVi2 dci2 pmi2 ani2 cdi2 cti2), sli2⟩) (ci2 : PySem.W.codeIn K cdi2 "NoHues.__init__" = true) (ki2 : PySem.W.keepIn K (.ref fi2) = true) (nf2 : PySem.W.findIn K (.ref cc2) "place" = some none)
    (rr0 : PySem.W.readsIn K cc0 (.type "type") = true) (rr1 : PySem.W.specialIn K (.ref cc0) "__getattribute__" = some (some (.builtin "type.__getattribute__"))) (rr2 : PySem.W.findCls K (.ref cc0) (.type "type") "__init__" = some (.val (.builtin "ValueError.__init__")))
    (uu2 : PySem.W.subIn K (.ref cc2) (.ref cc0) = some true)
    (uu1 : PySem.W.subIn K (.ref cc1) (.ref cc0) = some true)
    : ∃ fd : FuncData, (∀ (s : Shared) (v : Value), BindsTo s fd ⟨[v], []⟩ [("_law_script", v)]) ∧ ∀ base : Heap, K.In base → base.Ns mainGlobals mg → FnOk l.prog w K mg base CX0 4 fa fd ["_law_script"] (sp_law K) := by
  have e := hfa.symm.trans (PySem.W.mg_of X G a13)
  cases e
  have F0 := fun_mk (st := s_ties_on) l0 c0 k0
  have b0 := F0.binds (ps := ["net", "way"]) fun _ _ _ _ _ _ us hl => match us, hl with | [_, _], _ => rfl
  have F1 := fun_mk (st := s_first_clash) l1 c1 k1
  have b1 := F1.binds (ps := ["lain", "hues"]) fun _ _ _ _ _ _ us hl => match us, hl with | [_, _], _ => rfl
  have F2 := fun_mk (st := s_used) l2 c2 k2
  have b2 := F2.binds (ps := ["hues"]) fun _ _ _ _ _ _ us hl => match us, hl with | [_], _ => rfl
  have F3 := fun_mk (st := s_four_alike) l3 c3 k3
  have b3 := F3.binds (ps := ["hues"]) fun _ _ _ _ _ _ us hl => match us, hl with | [_], _ => rfl
  have F4 := fun_mk (st := s_way_for) l4 c4 k4
  have b4 := F4.binds (ps := ["hues"]) fun _ _ _ _ _ _ us hl => match us, hl with | [_], _ => rfl
  have F5 := fun_mk (st := s_next_way) l5 c5 k5
  have b5 := F5.binds (ps := ["ways", "hues"]) fun _ _ _ _ _ _ us hl => match us, hl with | [_, _], _ => rfl
  have F6 := fun_mk (st := s_law_mix) l6 c6 k6
  have b6 := F6.binds (ps := ["_law_number", "_law_k"]) fun _ _ _ _ _ _ us hl => match us, hl with | [_, _], _ => rfl
  have F7 := fun_mk (st := s_law_cell_at) l7 c7 k7
  have b7 := F7.binds (ps := ["_law_script", "_law_k"]) fun _ _ _ _ _ _ us hl => match us, hl with | [_, _], _ => rfl
  have F8 := fun_mk (st := s_law_left) l8 c8 k8
  have b8 := F8.binds (ps := ["_law_script", "_law_k"]) fun _ _ _ _ _ _ us hl => match us, hl with | [_, _], _ => rfl
  have F9 := fun_mk (st := s_law_draw) l9 c9 k9
  have b9 := F9.binds (ps := ["_law_left_here", "_law_base"]) fun _ _ _ _ _ _ us hl => match us, hl with | [_, _], _ => rfl
  have F10 := fun_mk (st := s_law_meet) l10 c10 k10
  have b10 := F10.binds (ps := ["_law_one", "_law_other"]) fun _ _ _ _ _ _ us hl => match us, hl with | [_, _], _ => rfl
  have F11 := fun_mk (st := s_law_hue) l11 c11 k11
  have b11 := F11.binds (ps := ["_law_left_here", "_law_way", "_law_ways", "_law_hues", "_law_manner"]) fun _ _ _ _ _ _ us hl => match us, hl with | [_, _, _, _, _], _ => rfl
  have F12 := fun_mk (st := s_law_is_way) l12 c12 k12
  have b12 := F12.binds (ps := ["_law_way"]) fun _ _ _ _ _ _ us hl => match us, hl with | [_], _ => rfl
  have F13 := fun_mk (st := s_law) l13 c13 k13
  have b13 := F13.binds (ps := ["_law_script"]) fun _ _ _ _ _ _ us hl => match us, hl with | [_], _ => rfl
  have Fi1 := fun_mk (st := s_init_NoWay) li1 ci1 ki1
  have bi1 := Fi1.binds (ps := ["self", "at"]) fun _ _ _ _ _ _ us hl => match us, hl with | [_, _], _ => rfl
  have Fi2 := fun_mk (st := s_init_NoHues) li2 ci2 ki2
  have bi2 := Fi2.binds (ps := ["self", "place"]) fun _ _ _ _ _ _ us hl => match us, hl with | [_, _], _ => rfl
  have T : Txt K mg ⟨cc0, cc1, cc2, fi1, _, fi2, _, tu0, f0, _, f1, _, f2, _, f3, _, f4, _, f5, _, f6, _, f7, _, f8, _, f9, _, f10, _, f11, _, f12, _, fa, _⟩ :=
    ⟨PySem.W.mg_of X G a0, F0, b0, PySem.W.mg_of X G a1, F1, b1, PySem.W.mg_of X G a2, F2, b2, PySem.W.mg_of X G a3, F3, b3, PySem.W.mg_of X G a4, F4, b4, PySem.W.mg_of X G a5, F5, b5, PySem.W.mg_of X G a6, F6, b6, PySem.W.mg_of X G a7, F7, b7, PySem.W.mg_of X G a8, F8, b8, PySem.W.mg_of X G a9, F9, b9, PySem.W.mg_of X G a10, F10, b10, PySem.W.mg_of X G a11, F11, b11, PySem.W.mg_of X G a12, F12, b12, PySem.W.mg_of X G a13, F13, b13, PySem.W.mg_of X G tc0, fun H => .inr ⟨_, _, _, tl0, rfl, rfl, (show 2 ≤ sizeLine by decide +kernel), (.cons ⟨_, rfl⟩ (.cons ⟨_, rfl⟩ .nil))⟩, PySem.W.mg_none_of X G z0, PySem.W.mg_none_of X G z1, PySem.W.mg_none_of X G z2, PySem.W.mg_none_of X G z3, PySem.W.mg_none_of X G z4, PySem.W.mg_none_of X G z5, PySem.W.mg_none_of X G z6, PySem.W.mg_none_of X G z7, PySem.W.mg_none_of X G z8, PySem.W.mg_none_of X G z9, PySem.W.mg_none_of X G z10, PySem.W.mg_of X G kk0, exkB_ok xx0, tt0, PySem.W.mg_of X G kk1, exkB_ok xx1, tt1, PySem.W.mg_of X G kk2, exkB_ok xx2, tt2, ⟨⟨nm1, q1, N1, bs1, _, sn1, su1, ab1, co1, dd1, ma1, mb1, mc1, md1, me1, la1, rfl⟩, sa1, ee1, tt1, ke1⟩, ai1, ti1, Fi1, bi1, nf1, ⟨⟨nm2, q2, N2, bs2, _, sn2, su2, ab2, co2, dd2, ma2, mb2, mc2, md2, me2, la2, rfl⟩, sa2, ee2, tt2, ke2⟩, ai2, ti2, Fi2, bi2, nf2, ⟨PySem.W.mg_of X G kk0, rr0, rr1, rr2⟩, uu2, uu1⟩
  exact ⟨_, fun s v => .of_eq rfl, fun base _ _ => ok_law T⟩
end Pf
open PySem PySem.W PyProof.Rows
set_option maxHeartbeats 0 in
theorem PySem.Challenge.cw_tiehues_k20_whole_four_hues_forced_holds : PySem.Challenge.rw_tiehues_k20_whole_four_hues_forced.Holds := by
  w_on; o_law; k_head; (case hw => w_witness2)
  k_fill
  refine L2.walk_ofK (l := PySem.Challenge.rw_tiehues_k20_whole_four_hues_forced) (n := 63) (k := 4) (x := "_law_script") (CX := L2.CX0) (sp := Pf.sp_law) rfl (by decide) rfl ⟨rfl, by decide, by decide⟩ (fun w h Y => PySem.W.kIn_of Y) ?F (fun _ _ a ns hl _ hS => ⟨a, ns, rfl, hS, hl, fun _ => rfl⟩) (fun _ _ _ _ h => h)
  case F =>
    intro w mg fa h KX G hmg
    refine' Pf.all_mk KX G hmg ?a0 ?l0 ?c0 ?k0 ?a1 ?l1 ?c1 ?k1 ?a2 ?l2 ?c2 ?k2 ?a3 ?l3 ?c3 ?k3 ?a4 ?l4 ?c4 ?k4 ?a5 ?l5 ?c5 ?k5 ?a6 ?l6 ?c6 ?k6 ?a7 ?l7 ?c7 ?k7 ?a8 ?l8 ?c8 ?k8 ?a9 ?l9 ?c9 ?k9 ?a10 ?l10 ?c10 ?k10 ?a11 ?l11 ?c11 ?k11 ?a12 ?l12 ?c12 ?k12 ?a13 ?l13 ?c13 ?k13 ?tc0 ?tl0 ?z0 ?z1 ?z2 ?z3 ?z4 ?z5 ?z6 ?z7 ?z8 ?z9 ?z10 ?kk0 ?xx0 ?tt0 ?kk1 ?xx1 ?tt1 ?kk2 ?xx2 ?tt2 ?la1 ?sa1 ?ee1 ?ke1 ?ai1 ?ti1 ?li1 ?ci1 ?ki1 ?nf1 ?la2 ?sa2 ?ee2 ?ke2 ?ai2 ?ti2 ?li2 ?ci2 ?ki2 ?nf2 ?rr0 ?rr1 ?rr2 ?uu2 ?uu1
    (case a0 => k_is); (case l0 => k_is); (case c0 => k_is); (case k0 => k_is); (case a1 => k_is); (case l1 => k_is); (case c1 => k_is); (case k1 => k_is); (case a2 => k_is); (case l2 => k_is); (case c2 => k_is); (case k2 => k_is); (case a3 => k_is); (case l3 => k_is); (case c3 => k_is); (case k3 => k_is); (case a4 => k_is); (case l4 => k_is); (case c4 => k_is); (case k4 => k_is); (case a5 => k_is); (case l5 => k_is); (case c5 => k_is); (case k5 => k_is); (case a6 => k_is); (case l6 => k_is); (case c6 => k_is); (case k6 => k_is); (case a7 => k_is); (case l7 => k_is); (case c7 => k_is); (case k7 => k_is); (case a8 => k_is); (case l8 => k_is); (case c8 => k_is); (case k8 => k_is); (case a9 => k_is); (case l9 => k_is); (case c9 => k_is); (case k9 => k_is); (case a10 => k_is); (case l10 => k_is); (case c10 => k_is); (case k10 => k_is); (case a11 => k_is); (case l11 => k_is); (case c11 => k_is); (case k11 => k_is); (case a12 => k_is); (case l12 => k_is); (case c12 => k_is); (case k12 => k_is); (case a13 => k_is); (case l13 => k_is); (case c13 => k_is); (case k13 => k_is); (case tc0 => k_is); (case tl0 => k_is); (case z0 => k_is); (case z1 => k_is); (case z2 => k_is); (case z3 => k_is); (case z4 => k_is); (case z5 => k_is); (case z6 => k_is); (case z7 => k_is); (case z8 => k_is); (case z9 => k_is); (case z10 => k_is); (case kk0 => k_is); (case xx0 => kernel_rfl); (case tt0 => k_is); (case kk1 => k_is); (case xx1 => kernel_rfl); (case tt1 => k_is); (case kk2 => k_is); (case xx2 => kernel_rfl); (case tt2 => k_is); (case la1 => k_is); (case sa1 => k_is); (case ee1 => k_is); (case ke1 => k_is); (case ai1 => k_is); (case ti1 => k_is); (case li1 => k_is); (case ci1 => k_is); (case ki1 => k_is); (case nf1 => k_is); (case la2 => k_is); (case sa2 => k_is); (case ee2 => k_is); (case ke2 => k_is); (case ai2 => k_is); (case ti2 => k_is); (case li2 => k_is); (case ci2 => k_is); (case ki2 => k_is); (case nf2 => k_is); (case rr0 => k_is); (case rr1 => k_is); (case rr2 => k_is); (case uu2 => k_is); (case uu1 => k_is)
