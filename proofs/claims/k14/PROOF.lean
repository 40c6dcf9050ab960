import PyProof.Rows.All
import Wide.All
import OpenK.AllK
import Wide.FinOn
import HandS.ForMost
import HandS.NoneIn
import HandS.Conv
import HandS.IsInst
import HandS.Wide
import HandS.SortInts
import HandS.Walk
import KE.DataMinMax
import HandS.Text
import HandS.Zip
import HandS.Exc
import HandS.Sort
import HandS.Dict
import HandS.Style
import PySem.Challenge.RW_tiehues_k14_shown_by_levels
set_option Elab.async false
set_option linter.all false
set_option maxRecDepth 100000
set_option maxHeartbeats 4000000
set_option synthInstance.maxHeartbeats 0
set_option synthInstance.maxSize 1000000
namespace Cm
open PySem PySem.Spec PyProof.Rows L2

/-! ### named readings -/
def rLen (K : PySem.W.Frag) : List V → Hp → VK → Prop := fun xs H Q => ∃ p ys, xs = [.ref p] ∧ (SqL K H p ys ∨ SqT K H p ys) ∧ Q (.int ys.length) H
theorem q_len {X : Cx} : CallR X (.builtin "len") (rLen X.K) := call_len_seq
def rListOf (K : PySem.W.Frag) : List V → Hp → VK → Prop := fun xs H Q => ∃ p ys, xs = [.ref p] ∧ (SqL K H p ys ∨ SqT K H p ys) ∧ ∀ l, H l = none → Q (.ref l) (upd H l (.lst ys))
theorem q_listOf {X : Cx} : CallR X (.type "list") (rListOf X.K) := call_list_of
def rMax2 : List V → Hp → VK → Prop := fun xs H Q => ∃ i j, xs = [.int i, .int j] ∧ Q (.int (if j > i then j else i)) H
theorem q_max2 {X : Cx} (hc : X.calm = true) : CallR X (.builtin "max") rMax2 := call_max2 hc
def rMin2 : List V → Hp → VK → Prop := fun xs H Q => ∃ i j, xs = [.int i, .int j] ∧ Q (.int (if j < i then j else i)) H
theorem q_min2 {X : Cx} (hc : X.calm = true) : CallR X (.builtin "min") rMin2 := call_min2 hc
theorem q_isi {X : Cx} : CallR X (.builtin "isinstance") (rIsi X.K) := call_isi
def rIntOf : List V → Hp → VK → Prop := fun xs H Q => (∃ i, xs = [.int i] ∧ Q (.int i) H) ∨ ∃ k, xs = [.bl k] ∧ Q (.int (if k then 1 else 0)) H
theorem q_intB {X : Cx} : CallR X (.type "int") rIntOf := call_int1
theorem q_intI {X : Cx} : CallR X (.type "int") rIntOf := call_int1

/-! ### operators by names -/
def xAdd : R2 := rI0 fun i j => .int (i + j)
def xSub : R2 := rI0 fun i j => .int (i - j)
def xMul : R2 := rI CMul fun i j => .int (i * j)
def xMulW : R2 := rI CMulW fun i j => .int (i * j)
def xDiv : R2 := rI CDiv fun i j => .int (i / j)
def xDivW : R2 := rI CDivW fun i j => .int (i / j)
def xMod : R2 := rI (fun _ j => 0 < j) fun i j => .int (i % j)
def xPow : R2 := rI CPow fun i j => .int (i ^ j.toNat)
def xLt : R2 := rI0 fun i j => .bl (decide (i < j))
def xLe : R2 := rI0 fun i j => .bl (decide (i ≤ j))
def xGt : R2 := rI0 fun i j => .bl (decide (j < i))
def xGe : R2 := rI0 fun i j => .bl (decide (j ≤ i))
def xNeg : V → Hp → VK → Prop := rU fun i => .int (-i)
def xIsN : R2 := fun x y H Q => y = .non ∧ Q (.bl (decide (x = .non))) H
def xNotN : R2 := fun x y H Q => y = .non ∧ Q (.bl (!decide (x = .non))) H
def xTru (K : PySem.W.Frag) (ta : TE) : TT := fun σ H Q => ta σ H fun x H' => ∃ k, TruV K x H' k ∧ Q k H'

/-! ### xs[i] += e -/
def rGetL (K : PySem.W.Frag) : V → V → Hp → VK → Prop := fun x y H Q => ∃ p xs i v, x = .ref p ∧ y = .int i ∧ SqL K H p xs ∧ 0 ≤ i ∧ atI xs i = some v ∧ Q v H
theorem get_list {X : Cx} : PGet X (rGetL X.K) := by
  intro pins s σ H x y v u Q I rx ry h
  obtain ⟨p, xs, i, z, rfl, rfl, hq, h0, he, q⟩ := h
  cases rx
  obtain ⟨t, rfl⟩ := ry
  obtain ⟨its, r, pl, hz⟩ := I.list hq
  obtain ⟨j, h1, h2, h3, h4, h5⟩ := atI_get he
  obtain ⟨w, ew, rw'⟩ := r.get h2
  have hl := r.length
  have hn := line63
  have fin : EP X pins σ Q w s := ⟨z, H, I, rw', q⟩
  have hj : i.toNat = j := by
    rw [seqIndex_of h0 h5] at h1
    exact Option.some.inj h1
  exact wpAny_getItem_list pl.isList h0 (by omega) (by rw [hj]; simpa using ew) fin
def xAugL (K : PySem.W.Frag) (to ti te : TE) : TS := tAugS to ti te (rGetL K) (ipI fun i j => i + j) rSetL
theorem q_augL {X : Cx} {o i e : Expr} {to ti te : TE} {tpos pos : Pos} (ho : PE X o to) (hi : PE X i ti) (he : PE X e te)
    (ha : ∀ ov iv new, augStore i ov iv new = (do holding [new, ov, iv] (setItem ov iv new); release [new, ov, iv] []; pure .next) := by intros; rfl) : PS X (.AugAssign (.Subscript o i tpos) .Add e pos) (xAugL X.K to ti te) :=
  ps_augS ho hi get_list he ip_add set_list ha

/-! ### constants of the module -/
def g_tok (mg : Str → Option Value) (x : Str) : Tok := match mg x with
  | some (.int _ t) => t
  | _ => default
theorem tok_mk {mg : Str → Option Value} {x : Str} {n : Int} {t : Tok} (h : mg x = some (.int n t)) : mg x = some (.int n (g_tok mg x)) := by
  unfold g_tok
  rw [h]

/-! ### heaps -/
theorem same_new {H : Hp} {p : Addr} {o : HO} (h : H p = none) : Same H (upd H p o) := fun b x e => by
  rw [upd_ne (ne_of_none e h)]
  exact e
theorem same_mut {H H' : Hp} {p : Addr} {o : HO} (e : Same H H') (h : H p = none) : Same H (upd H' p o) := fun a u ha => by
  rw [upd_ne (ne_of_none ha h)]
  exact e a u ha
theorem same_seqT {K : PySem.W.Frag} {H H' : Hp} {a : Addr} {xs : List V} (e : Same H H') (h : SqT K H a xs) : SqT K H' a xs := by
  rcases h with (h | ⟨o, h⟩) | h
  · exact .inl (.inl (e _ _ h))
  · exact .inl (.inr ⟨o, e _ _ h⟩)
  · exact .inr h
theorem sl {K : PySem.W.Frag} {H : Hp} {a : Addr} {xs : List V} (h : H a = some (.lst xs)) : SqL K H a xs := .inl (.inl h)
theorem stp {K : PySem.W.Frag} {H : Hp} {a : Addr} {xs : List V} (h : H a = some (.tup xs)) : SqT K H a xs := .inl (.inl h)
theorem sz {n : Nat} (h : n ≤ 100000) : n ≤ sizeLine := Nat.le_trans h (by decide)
theorem szl {n : Nat} (h : n < 100000) : n < sizeLine := Nat.lt_of_lt_of_le h (by decide)

/-! ### data -/
mutual
theorem dp_same {K : PySem.W.Frag} {H H' : Hp} (e : Same H H') : ∀ {v : V} {d : PyData}, Dp K H v d → Dp K H' v d
  | _, _, .non => .non
  | _, _, .bl b => .bl b
  | _, _, .int i => .int i
  | _, _, .str x => .str x
  | _, _, .lst s r => .lst (e.seq s) (dpa_same e r)
  | _, _, .tup s r => .tup (same_seqT e s) (dpa_same e r)
theorem dpa_same {K : PySem.W.Frag} {H H' : Hp} (e : Same H H') : ∀ {vs : List V} {ds : List PyData}, DpAll K H vs ds → DpAll K H' vs ds
  | _, _, .nil => .nil
  | _, _, .cons h r => .cons (dp_same e h) (dpa_same e r)
end
section
variable {K : PySem.W.Frag} {H : Hp}
theorem dp_int {v : V} {i : Int} (h : Dp K H v (.int i)) : v = .int i := by cases h; rfl
theorem dp_bool {v : V} {b : Bool} (h : Dp K H v (.bool b)) : v = .bl b := by cases h; rfl
theorem dp_str {v : V} {s : Str} (h : Dp K H v (.str s)) : v = .str s := by cases h; rfl
theorem dp_list {v : V} {ds : List PyData} (h : Dp K H v (.list ds)) : ∃ a xs, v = .ref a ∧ SqL K H a xs ∧ DpAll K H xs ds := by
  cases h with | lst s r => exact ⟨_, _, rfl, s, r⟩
theorem dp_tup {v : V} {ds : List PyData} (h : Dp K H v (.tuple ds)) : ∃ a xs, v = .ref a ∧ SqT K H a xs ∧ DpAll K H xs ds := by
  cases h with | tup s r => exact ⟨_, _, rfl, s, r⟩
theorem dp_tup2 {v : V} {c d : PyData} (h : Dp K H v (.tuple [c, d])) : ∃ a x y, v = .ref a ∧ SqT K H a [x, y] ∧ Dp K H x c ∧ Dp K H y d := by
  cases h with | tup s r =>
    cases r with | cons h1 r =>
      cases r with | cons h2 r =>
        cases r
        exact ⟨_, _, _, rfl, s, h1, h2⟩
theorem dp_pair {v : V} {a b : Int} (h : Dp K H v (.tuple [.int a, .int b])) : ∃ p, v = .ref p ∧ SqT K H p [.int a, .int b] := by
  obtain ⟨p, x, y, rfl, s, h1, h2⟩ := dp_tup2 h
  rw [dp_int h1, dp_int h2] at s
  exact ⟨p, rfl, s⟩
theorem dpa_ints : ∀ {ns : List Int} {vs : List V}, DpAll K H vs (ns.map PyData.int) → vs = ns.map V.int
  | [], _, h => by cases h; rfl
  | n :: r, _, h => by
    cases h with | cons h1 h2 => rw [dp_int h1, dpa_ints h2]; rfl
theorem dpa_of_ints : ∀ ns : List Int, DpAll K H (ns.map V.int) (ns.map PyData.int)
  | [] => .nil
  | n :: r => .cons (.int n) (dpa_of_ints r)
theorem dpa_len : ∀ {vs : List V} {ds : List PyData}, DpAll K H vs ds → vs.length = ds.length
  | _, _, .nil => rfl
  | _, _, .cons _ r => by simp [dpa_len r]
theorem dpa_get : ∀ {vs : List V} {ds : List PyData} {i : Nat} {v : V}, DpAll K H vs ds → vs[i]? = some v → ∃ d, ds[i]? = some d ∧ Dp K H v d
  | _, _, _, _, .nil, e => by simp at e
  | _, _, 0, _, .cons h _, e => by simp at e; subst e; exact ⟨_, rfl, h⟩
  | _, _, i + 1, _, .cons _ r, e => by
    obtain ⟨d, h1, h2⟩ := dpa_get (i := i) r (by simpa using e)
    exact ⟨d, by simpa using h1, h2⟩
theorem dpa_get2 : ∀ {vs : List V} {ds : List PyData} {i : Nat} {d : PyData}, DpAll K H vs ds → ds[i]? = some d → ∃ v, vs[i]? = some v ∧ Dp K H v d
  | _, _, _, _, .nil, e => by simp at e
  | _, _, 0, _, .cons h _, e => by simp at e; subst e; exact ⟨_, rfl, h⟩
  | _, _, i + 1, _, .cons _ r, e => by
    obtain ⟨d, h1, h2⟩ := dpa_get2 (i := i) r (by simpa using e)
    exact ⟨d, by simpa using h1, h2⟩
theorem dpa_app {vs ws : List V} {ds es : List PyData} : DpAll K H vs ds → DpAll K H ws es → DpAll K H (vs ++ ws) (ds ++ es)
  | .nil, r => r
  | .cons h t, r => .cons h (dpa_app t r)
/-- a list of ints -/
abbrev dInts (ns : List Int) : PyData := .list (ns.map PyData.int)
theorem dp_ints {v : V} {ns : List Int} (h : Dp K H v (dInts ns)) : ∃ a, v = .ref a ∧ SqL K H a (ns.map V.int) := by
  obtain ⟨a, xs, rfl, s, r⟩ := dp_list h
  rw [dpa_ints r] at s
  exact ⟨a, rfl, s⟩
theorem dp_of_ints {a : Addr} {ns : List Int} (h : SqL K H a (ns.map V.int)) : Dp K H (.ref a) (dInts ns) := .lst h (dpa_of_ints ns)
/-- a pair of ints -/
abbrev dPair (p : Int × Int) : PyData := .tuple [.int p.1, .int p.2]
theorem dp_of_pair {a : Addr} {x y : Int} (h : SqT K H a [.int x, .int y]) : Dp K H (.ref a) (dPair (x, y)) := .tup h (.cons (.int x) (.cons (.int y) .nil))
abbrev dPairs (ps : List (Int × Int)) : PyData := .list (ps.map dPair)
end

theorem dpairs_get {K : PySem.W.Frag} {H : Hp} {xs : List V} {ps : List (Int × Int)} {i : Nat} {x : V} (hxs : DpAll K H xs (ps.map dPair)) (hx : xs[i]? = some x) : ∃ p c, ps[i]? = some p ∧ x = .ref c ∧ SqT K H c [.int p.1, .int p.2] := by
  obtain ⟨d, hd, hdx⟩ := dpa_get hxs hx
  rw [List.getElem?_map] at hd
  obtain ⟨p, hp, rfl⟩ := Option.map_eq_some_iff.mp hd
  obtain ⟨c, rfl, hcs⟩ := dp_pair hdx
  exact ⟨p, c, hp, rfl, hcs⟩
/-- data that may be compared: no dicts, at most n deep -/
def Sh (n : Nat) (d : PyData) : Prop := d.canLay0 = true ∧ d.depth ≤ n
theorem Sh.shaped {n : Nat} {d : PyData} (h : Sh n d) (hn : n ≤ 64) : SeqAt.shaped d = true := by
  unfold SeqAt.shaped
  rw [h.1, decide_eq_true (Nat.le_trans h.2 hn)]; rfl
theorem Sh.mono {n m : Nat} {d : PyData} (h : Sh n d) (hn : n ≤ m) : Sh m d := ⟨h.1, Nat.le_trans h.2 hn⟩
theorem sh_int {n : Nat} {i : Int} : Sh n (.int i) := ⟨rfl, Nat.zero_le _⟩
theorem sh_bool {n : Nat} {b : Bool} : Sh n (.bool b) := ⟨rfl, Nat.zero_le _⟩
theorem sh_none {n : Nat} : Sh n .none := ⟨rfl, Nat.zero_le _⟩
theorem sh_all {n : Nat} : ∀ {ds : List PyData}, (∀ d ∈ ds, Sh n d) → PyData.canLayAll0 ds = true ∧ PyData.depthAll ds ≤ n
  | [], _ => ⟨rfl, Nat.zero_le _⟩
  | d :: r, h => by
    obtain ⟨h1, h2⟩ := sh_all (ds := r) fun x hx => h x (List.mem_cons_of_mem _ hx)
    obtain ⟨h3, h4⟩ := h d List.mem_cons_self
    refine ⟨?_, ?_⟩
    · show (PyData.canLay0 d && PyData.canLayAll0 r) = true
      rw [h3, h1]; rfl
    · show max d.depth (PyData.depthAll r) ≤ n
      omega
theorem sh_list {n : Nat} {ds : List PyData} (h : ∀ d ∈ ds, Sh n d) : Sh (n + 1) (.list ds) := by
  obtain ⟨h1, h2⟩ := sh_all h
  exact ⟨h1, by show PyData.depthAll ds + 1 ≤ n + 1; omega⟩
theorem sh_tup {n : Nat} {ds : List PyData} (h : ∀ d ∈ ds, Sh n d) : Sh (n + 1) (.tuple ds) := by
  obtain ⟨h1, h2⟩ := sh_all h
  exact ⟨h1, by show PyData.depthAll ds + 1 ≤ n + 1; omega⟩
theorem sh_ints {n : Nat} (ns : List Int) : Sh (n + 1) (dInts ns) := sh_list fun d hd => by
  obtain ⟨i, _, rfl⟩ := List.mem_map.mp hd
  exact sh_int
theorem sh_pair {n : Nat} (p : Int × Int) : Sh (n + 1) (dPair p) := sh_tup fun d hd => by
  rcases List.mem_cons.mp hd with rfl | hd
  · exact sh_int
  · rcases List.mem_cons.mp hd with rfl | hd
    · exact sh_int
    · cases hd
theorem sh_pairs {n : Nat} (ps : List (Int × Int)) : Sh (n + 2) (dPairs ps) := sh_list fun d hd => by
  obtain ⟨p, _, rfl⟩ := List.mem_map.mp hd
  exact sh_pair p
theorem sh_two {n : Nat} {c d : PyData} (h1 : Sh n c) (h2 : Sh n d) : Sh (n + 1) (.tuple [c, d]) := sh_tup fun x hx => by
  rcases List.mem_cons.mp hx with rfl | hx
  · exact h1
  · rcases List.mem_cons.mp hx with rfl | hx
    · exact h2
    · cases hx
theorem Sh.refl {n : Nat} {d : PyData} (h : Sh n d) : PyData.eqv d d = true := SeqAt.eqv_refl d h.1
theorem ff_iff {P : Prop} (h : ¬ P) : false = true ↔ P := ⟨fun z => (nomatch z), fun z => (h z).elim⟩
theorem tt_iff {P : Prop} (h : P) : true = true ↔ P := ⟨fun _ => h, fun _ => rfl⟩

theorem ixN_of {n : Nat} {i : Int} (h0 : 0 ≤ i) (h1 : i < n) : ixN n i = some i.toNat := by unfold ixN; rw [if_pos h0, if_pos h1]
theorem map_erase (ns : List Int) (i : Nat) : (ns.map V.int).eraseIdx i = (ns.eraseIdx i).map V.int := by
  induction ns generalizing i with
  | nil => rfl
  | cons x r ih => cases i with
    | zero => rfl
    | succ i => show V.int x :: (r.map V.int).eraseIdx i = _; rw [ih]; rfl
theorem erase_perm {α : Type} (l : List α) (i : Nat) (h : i < l.length) : (l[i] :: l.eraseIdx i).Perm l := by
  induction l generalizing i with
  | nil => exact absurd h (by simp)
  | cons x r ih => cases i with
    | zero => exact List.Perm.refl _
    | succ i =>
      have h' : i < r.length := by simpa using h
      show (r[i] :: x :: r.eraseIdx i).Perm (x :: r)
      exact (List.Perm.swap _ _ _).trans ((ih i h').cons x)
theorem getD_memI {ns : List Int} {i : Int} (h0 : 0 ≤ i) (h1 : i < ns.length) : ns.getD i.toNat 0 ∈ ns := by
  have h : i.toNat < ns.length := by omega
  rw [List.getD_eq_getElem?_getD, List.getElem?_eq_getElem h]
  exact List.getElem_mem h
theorem not_in2 {p a b : Addr} (h1 : p ≠ a) (h2 : p ≠ b) : p ∉ [a, b] := by
  intro z
  rcases List.mem_cons.mp z with z | z
  · exact h1 z
  · rcases List.mem_cons.mp z with z | z
    · exact h2 z
    · cases z

/-! ### readings, step by step -/
section
variable {K : PySem.W.Frag} {σ : L2.St} {H : Hp} {D : Ends} {Q : VK} {ta tb te : TE} {t u : TT} {s1 s2 : TS} {QT : Bool → Hp → Prop} {QA : List V → Hp → Prop} {tr : TA} {QS : L2.St → Hp → Prop}
theorem k_seq {nx : L2.St → Hp → Prop} {rt : VK} {bk ct : L2.St → Hp → Prop} (h : s1 ⟨s2 ⟨nx, rt, bk, ct⟩, rt, bk, ct⟩ σ H) : tSeq s1 s2 ⟨nx, rt, bk, ct⟩ σ H := h
theorem k_nx {nx : L2.St → Hp → Prop} {rt : VK} {bk ct : L2.St → Hp → Prop} (h : nx σ H) : Ends.nx ⟨nx, rt, bk, ct⟩ σ H := h
theorem k_next {nx : L2.St → Hp → Prop} {rt : VK} {bk ct : L2.St → Hp → Prop} (h : nx σ H) : tNext ⟨nx, rt, bk, ct⟩ σ H := h
theorem k_cont {nx : L2.St → Hp → Prop} {rt : VK} {bk ct : L2.St → Hp → Prop} (h : ct σ H) : tCont ⟨nx, rt, bk, ct⟩ σ H := h
theorem k_brk {nx : L2.St → Hp → Prop} {rt : VK} {bk ct : L2.St → Hp → Prop} (h : bk σ H) : tBreak ⟨nx, rt, bk, ct⟩ σ H := h
theorem k_set {nx : L2.St → Hp → Prop} {rt : VK} {bk ct : L2.St → Hp → Prop} {i : Nat} (h : te σ H fun x H1 => nx (σ.set i (some x)) H1) : tAsg te (gName i) ⟨nx, rt, bk, ct⟩ σ H := h
theorem k_asg {nx : L2.St → Hp → Prop} {rt : VK} {bk ct : L2.St → Hp → Prop} {g : TG} (h : te σ H fun x H1 => g x σ H1 nx) : tAsg te g ⟨nx, rt, bk, ct⟩ σ H := h
theorem k_drop {nx : L2.St → Hp → Prop} {rt : VK} {bk ct : L2.St → Hp → Prop} (h : te σ H fun _ H1 => nx σ H1) : tDrop te ⟨nx, rt, bk, ct⟩ σ H := h
theorem k_ret {nx : L2.St → Hp → Prop} {rt : VK} {bk ct : L2.St → Hp → Prop} (h : te σ H rt) : tRet te ⟨nx, rt, bk, ct⟩ σ H := h
theorem k_retN {nx : L2.St → Hp → Prop} {rt : VK} {bk ct : L2.St → Hp → Prop} (h : rt .non H) : tRetN ⟨nx, rt, bk, ct⟩ σ H := h
theorem k_aug {nx : L2.St → Hp → Prop} {rt : VK} {bk ct : L2.St → Hp → Prop} {i : Nat} {f : Int → Int → Int} {a : Int} (e : σ[i]? = some (some (.int a))) (h : te σ H fun y H1 => ipI f (.int a) y H1 fun z H2 => nx (σ.set i (some z)) H2) : tAug i te (ipI f) ⟨nx, rt, bk, ct⟩ σ H := ⟨_, e, h⟩
theorem k_augL {nx : L2.St → Hp → Prop} {rt : VK} {bk ct : L2.St → Hp → Prop} {to ti : TE} (h : to σ H fun o H1 => ti σ H1 fun i H2 => rGetL K o i H2 fun x H3 => te σ H3 fun y H4 => ipI (fun i j => i + j) x y H4 fun z H5 => rSetL o i z H5 fun H6 => nx σ H6) : xAugL K to ti te ⟨nx, rt, bk, ct⟩ σ H := h
theorem k_ipI {f : Int → Int → Int} {a b : Int} (h : Q (.int (f a b)) H) : ipI f (.int a) (.int b) H Q := ⟨a, b, rfl, rfl, h⟩
theorem k_if (h : t σ H fun b H1 => if b = true then s1 D σ H1 else s2 D σ H1) : tIfS t s1 s2 D σ H := h
theorem k_var {i : Nat} {v : V} (e : σ[i]? = some (some v)) (h : Q v H) : tVar i σ H Q := ⟨v, e, h⟩
theorem k_c {v : V} (h : Q v H) : tC v σ H Q := h
theorem k_op {r : R2} (h : ta σ H fun x H1 => tb σ H1 fun y H2 => r x y H2 Q) : tOp r ta tb σ H Q := h
theorem k_un {r : V → Hp → VK → Prop} (h : ta σ H fun x H1 => r x H1 Q) : tUn r ta σ H Q := h
theorem k_I0 {g : Int → Int → V} {i j : Int} (h : Q (g i j) H) : rI0 g (.int i) (.int j) H Q := ⟨i, j, rfl, rfl, h⟩
theorem k_I {C : Int → Int → Prop} {g : Int → Int → V} {i j : Int} (hc : C i j) (h : Q (g i j) H) : rI C g (.int i) (.int j) H Q := ⟨i, j, rfl, rfl, hc, h⟩
theorem k_add {i j : Int} (h : Q (.int (i + j)) H) : xAdd (.int i) (.int j) H Q := ⟨i, j, rfl, rfl, h⟩
theorem k_sub {i j : Int} (h : Q (.int (i - j)) H) : xSub (.int i) (.int j) H Q := ⟨i, j, rfl, rfl, h⟩
theorem k_mul {i j : Int} (hc : CMul i j) (h : Q (.int (i * j)) H) : xMul (.int i) (.int j) H Q := ⟨i, j, rfl, rfl, hc, h⟩
theorem k_mulW {i j : Int} (hc : CMulW i j) (h : Q (.int (i * j)) H) : xMulW (.int i) (.int j) H Q := ⟨i, j, rfl, rfl, hc, h⟩
theorem k_div {i j : Int} (hc : CDiv i j) (h : Q (.int (i / j)) H) : xDiv (.int i) (.int j) H Q := ⟨i, j, rfl, rfl, hc, h⟩
theorem k_divW {i j : Int} (hc : CDivW i j) (h : Q (.int (i / j)) H) : xDivW (.int i) (.int j) H Q := ⟨i, j, rfl, rfl, hc, h⟩
theorem k_mod {i j : Int} (hc : 0 < j) (h : Q (.int (i % j)) H) : xMod (.int i) (.int j) H Q := ⟨i, j, rfl, rfl, hc, h⟩
theorem k_pow {i j : Int} (hc : CPow i j) (h : Q (.int (i ^ j.toNat)) H) : xPow (.int i) (.int j) H Q := ⟨i, j, rfl, rfl, hc, h⟩
theorem k_lt {i j : Int} (h : Q (.bl (decide (i < j))) H) : xLt (.int i) (.int j) H Q := ⟨i, j, rfl, rfl, h⟩
theorem k_le {i j : Int} (h : Q (.bl (decide (i ≤ j))) H) : xLe (.int i) (.int j) H Q := ⟨i, j, rfl, rfl, h⟩
theorem k_gt {i j : Int} (h : Q (.bl (decide (j < i))) H) : xGt (.int i) (.int j) H Q := ⟨i, j, rfl, rfl, h⟩
theorem k_ge {i j : Int} (h : Q (.bl (decide (j ≤ i))) H) : xGe (.int i) (.int j) H Q := ⟨i, j, rfl, rfl, h⟩
theorem k_neg {i : Int} (h : Q (.int (-i)) H) : xNeg (.int i) H Q := ⟨i, rfl, h⟩
theorem k_U {g : Int → V} {i : Int} (h : Q (g i) H) : rU g (.int i) H Q := ⟨i, rfl, h⟩
theorem k_eqI {i j : Int} (h : Q (.bl (decide (i = j))) H) : rEq (.int i) (.int j) H Q := ⟨rfl, by
  have e : decide (V.int i = V.int j) = decide (i = j) := by
    by_cases c : i = j
    · rw [decide_eq_true c, decide_eq_true (by rw [c])]
    · rw [decide_eq_false c, decide_eq_false (fun z => c (V.int.inj z))]
  rw [e]; exact h⟩
theorem k_neI {i j : Int} (h : Q (.bl (!decide (i = j))) H) : rNe (.int i) (.int j) H Q := ⟨rfl, by
  have e : decide (V.int i = V.int j) = decide (i = j) := by
    by_cases c : i = j
    · rw [decide_eq_true c, decide_eq_true (by rw [c])]
    · rw [decide_eq_false c, decide_eq_false (fun z => c (V.int.inj z))]
  rw [e]; exact h⟩
theorem k_test (h : te σ H fun x H1 => ∃ k, x = .bl k ∧ QT k H1) : tTest te σ H QT := h
theorem k_B (h : te σ H fun x H1 => ∃ k, x = .bl k ∧ QT k H1) : tB te σ H QT := h
theorem k_bl {b : Bool} {R : Bool → Prop} (h : R b) : ∃ k, V.bl b = .bl k ∧ R k := ⟨b, rfl, h⟩
theorem k_and (h : t σ H fun c H1 => if c = true then u σ H1 QT else QT false H1) : tAnd t u σ H QT := h
theorem k_or (h : t σ H fun c H1 => if c = true then QT true H1 else u σ H1 QT) : tOr t u σ H QT := h
theorem k_not (h : t σ H fun c H1 => QT (!c) H1) : tNot t σ H QT := h
theorem k_notV (h : ta σ H fun x H1 => ∃ c, x = .bl c ∧ Q (.bl (!c)) H1) : tNotV ta σ H Q := h
theorem k_andV (h : ta σ H fun x H1 => ∃ c, x = .bl c ∧ if c = true then tb σ H1 Q else Q (.bl false) H1) : tAndV ta tb σ H Q := h
theorem k_orV (h : ta σ H fun x H1 => ∃ c, x = .bl c ∧ if c = true then Q (.bl true) H1 else tb σ H1 Q) : tOrV ta tb σ H Q := h
theorem k_cb {r : List V → Hp → VK → Prop} (h : tr σ H fun vs H1 => r vs H1 Q) : tCB r tr σ H Q := h
theorem k_nil (h : QA [] H) : tNil σ H QA := h
theorem k_cons (h : ta σ H fun x H1 => tr σ H1 fun xs H2 => QA (x :: xs) H2) : tCons ta tr σ H QA := h
theorem k_call {sp : Sp} {dvs : List V} {E : XK} (h : tr σ H fun vs H1 => sp (vs ++ dvs) H1 Q E) : tCall sp dvs E tr σ H Q := h
theorem k_len {p : Addr} {ys : List V} (hs : SqL K H p ys) (h : Q (.int ys.length) H) : rLen K [.ref p] H Q := ⟨p, ys, rfl, .inl hs, h⟩
theorem k_len0 {p : Addr} (hs : H p = some (.lst [])) (h : Q (.int 0) H) : rLen K [.ref p] H Q := ⟨p, [], rfl, .inl (sl hs), h⟩
theorem k_lenT {p : Addr} {ys : List V} (hs : SqT K H p ys) (h : Q (.int ys.length) H) : rLen K [.ref p] H Q := ⟨p, ys, rfl, .inr hs, h⟩
theorem k_lenI {p : Addr} {ns : List Int} (hs : SqL K H p (ns.map V.int)) (h : Q (.int ns.length) H) : rLen K [.ref p] H Q := ⟨p, _, rfl, .inl hs, by rw [List.length_map]; exact h⟩
theorem k_list {p : Addr} {ys : List V} (hs : SqL K H p ys) (h : ∀ l, H l = none → Q (.ref l) (upd H l (.lst ys))) : rListOf K [.ref p] H Q := ⟨p, ys, rfl, .inl hs, h⟩
theorem k_lst (h : tr σ H fun xs H1 => xs.length ≤ sizeLine ∧ ∀ p, H1 p = none → Q (.ref p) (upd H1 p (.lst xs))) : tLst tr σ H Q := h
theorem k_tup (h : tr σ H fun xs H1 => xs.length ≤ sizeLine ∧ ∀ p, H1 p = none → Q (.ref p) (upd H1 p (.tup xs))) : tTup tr σ H Q := h
theorem k_new {xs : List V} {R : Addr → Prop} (hn : xs.length ≤ 100000) (h : ∀ p, H p = none → R p) : xs.length ≤ sizeLine ∧ ∀ p, H p = none → R p := ⟨sz hn, h⟩
theorem k_gtup {n : Nat} {g : TGs} {a : Addr} {xs : List V} (hs : SqT K H a xs) (hn : xs.length = n) (h : g xs σ H QS) : gTup K n g (.ref a) σ H QS := ⟨a, xs, rfl, hs, hn, h⟩
theorem k_gunl {n : Nat} {g : TGs} {a : Addr} {xs : List V} (hs : SqL K H a xs) (hn : xs.length = n) (h : g xs σ H QS) : gUnl K n g (.ref a) σ H QS := ⟨a, xs, rfl, hs, hn, h⟩
theorem k_gcons {g : TG} {gs : TGs} {v : V} {r : List V} (h : g v σ H fun σ' H' => gs r σ' H' QS) : gCons g gs (v :: r) σ H QS := ⟨v, r, rfl, h⟩
theorem k_gnil (h : QS σ H) : gNil [] σ H QS := ⟨rfl, h⟩
theorem k_gname {i : Nat} {v : V} (h : QS (σ.set i (some v)) H) : gName i v σ H QS := h
theorem k_gsub {to ti : TE} {ts : TSet} {v : V} (h : to σ H fun o H1 => ti σ H1 fun i H2 => ts o i v H2 fun H3 => QS σ H3) : gSub to ti ts v σ H QS := h
theorem k_setL {p : Addr} {xs : List V} {k : Int} {j : Nat} {v : V} {QH : Hp → Prop} (hp : H p = some (.lst xs)) (hj : ixN xs.length k = some j) (h : QH (upd H p (.lst (xs.set j v)))) : rSetL (.ref p) (.int k) v H QH := ⟨p, xs, k, j, rfl, rfl, hp, hj, h⟩
theorem k_ixL {p : Addr} {xs : List V} {i : Int} {v : V} (hs : SqL K H p xs) (ha : atI xs i = some v) (h : Q v H) : rIxL K (.ref p) (.int i) H Q := ⟨p, xs, i, v, rfl, rfl, hs, ha, h⟩
theorem k_ixT {p : Addr} {xs : List V} {i : Int} {v : V} (hs : SqT K H p xs) (ha : atI xs i = some v) (h : Q v H) : rIxT K (.ref p) (.int i) H Q := ⟨p, xs, i, v, rfl, rfl, hs, ha, h⟩
theorem k_min {p : Addr} {ns : List Int} (hs : SqL K H p (ns.map V.int)) (h0 : 0 < ns.length) (h : ∀ m, m ∈ ns → (∀ y, y ∈ ns → m ≤ y) → Q (.int m) H) : rMin K [.ref p] H Q := ⟨p, ns, rfl, hs, h0, h⟩
theorem k_max {p : Addr} {ns : List Int} (hs : SqL K H p (ns.map V.int)) (h0 : 0 < ns.length) (h : ∀ m, m ∈ ns → (∀ y, y ∈ ns → y ≤ m) → Q (.int m) H) : rMax K [.ref p] H Q := ⟨p, ns, rfl, hs, h0, h⟩
theorem k_popI {p : Addr} {ns : List Int} {i : Int} (hp : H p = some (.lst (ns.map V.int))) (h0 : 0 ≤ i) (h1 : i < ns.length) (h2 : i < 1000000) (h : Q (.int (ns.getD i.toNat 0)) (upd H p (.lst ((ns.eraseIdx i.toNat).map V.int)))) : rPopAt (.ref p) [.int i] H Q := by
  refine ⟨p, _, i, i.toNat, .int (ns.getD i.toNat 0), rfl, rfl, hp, by omega, by omega, ?_, ?_, ?_⟩
  · exact (ixN_seq (ixN_of h0 (by rw [List.length_map]; exact h1))).1
  · have hh : i.toNat < ns.length := by omega
    rw [List.getElem?_map, List.getElem?_eq_getElem hh]
    simp [List.getD_eq_getElem?_getD, List.getElem?_eq_getElem hh]
  · have e : (ns.map V.int).eraseIdx i.toNat = (ns.eraseIdx i.toNat).map V.int := map_erase ns _
    rw [e]; exact h
theorem k_sortedI {a : Addr} {ns : List Int} (hs : SqL K H a (ns.map V.int)) (h : ∀ (ns' : List Int) (p : Addr), ns'.Perm ns → ns'.Pairwise (· ≤ ·) → H p = none → Q (.ref p) (upd H p (.lst (ns'.map V.int)))) : rSortedI K [.ref a] H Q := ⟨a, ns, rfl, hs, h⟩
theorem k_max2 {i j : Int} (h : Q (.int (if j > i then j else i)) H) : rMax2 [.int i, .int j] H Q := ⟨i, j, rfl, h⟩
theorem k_min2 {i j : Int} (h : Q (.int (if j < i then j else i)) H) : rMin2 [.int i, .int j] H Q := ⟨i, j, rfl, h⟩
theorem k_bm {T : String} {r : V → List V → Hp → VK → Prop} (h : ta σ H fun x H1 => tyV K T x H1 ∧ tr σ H1 fun xs H2 => r x xs H2 Q) : tBM K T r ta tr σ H Q := h
theorem k_bm0 {T : String} {r : V → List V → Hp → VK → Prop} (h : ta σ H fun x H1 => tyV K T x H1 ∧ r x [] H1 Q) : tBM0 K T r ta σ H Q := h
theorem k_cat {p q : Addr} {xs ys : List V} (hp : H p = some (.lst xs)) (hq : H q = some (.lst ys)) (hz : xs.length + ys.length ≤ 100000) (h : ∀ l, H l = none → Q (.ref l) (upd H l (.lst (xs ++ ys)))) : rCat (.ref p) (.ref q) H Q := ⟨p, q, xs, ys, rfl, rfl, hp, hq, sz hz, h⟩
theorem k_tyL {p : Addr} {xs : List V} {R : Prop} (hp : SqL K H p xs) (h : R) : tyV K "list" (.ref p) H ∧ R := ⟨.inl ⟨rfl, _, hp⟩, h⟩
theorem k_append {p : Addr} {xs : List V} {y : V} (hp : H p = some (.lst xs)) (hn : xs.length < 100000) (h : Q .non (upd H p (.lst (xs ++ [y])))) : rAppend (.ref p) [y] H Q := ⟨p, xs, y, rfl, rfl, hp, szl hn, h⟩
theorem k_itT {b : Bool} {A B : Prop} (e : b = true) (h : A) : if b = true then A else B := by rw [if_pos e]; exact h
theorem k_itF {b : Bool} {A B : Prop} (e : b = false) (h : B) : if b = true then A else B := by rw [e]; exact h
theorem iteNT {A B : Prop} (h : B) : if (!true) = true then A else B := iteF h
theorem iteNF {A B : Prop} (h : A) : if (!false) = true then A else B := iteT h
theorem k_itDT {c A B : Prop} [Decidable c] (e : c) (h : A) : if decide c = true then A else B := by rw [if_pos (decide_eq_true e)]; exact h
theorem k_itDF {c A B : Prop} [Decidable c] (e : ¬ c) (h : B) : if decide c = true then A else B := by rw [decide_eq_false e]; exact h
theorem k_itNT {c A B : Prop} [Decidable c] (e : ¬ c) (h : A) : if (!decide c) = true then A else B := by rw [decide_eq_false e]; exact h
theorem k_itNF {c A B : Prop} [Decidable c] (e : c) (h : B) : if (!decide c) = true then A else B := by rw [decide_eq_true e]; exact h
theorem k_for {nx : L2.St → Hp → Prop} {rt : VK} {bk ct : L2.St → Hp → Prop} {wi : TI} {g : TG} {tb : TS} (h : wi σ H fun J H1 => ∃ W : Nat → Nat → L2.St → Hp → Prop, (∃ m, W 0 m σ H1) ∧ ∀ i m σ H, W i m σ H →
  (J.stop i H ∧ nx σ H) ∨ (J.go i H ∧ ∃ N : L2.St → Hp → Prop, (∀ σ' H', N σ' H' → ∃ m', m' < m ∧ W (i + 1) m' σ' H') ∧ ∀ x H', J.yld i H x H' → g x σ H' fun σ2 H2 => tb ⟨N, rt, nx, N⟩ σ2 H2)) : tFor wi g tb ⟨nx, rt, bk, ct⟩ σ H := h
theorem forL {nx : L2.St → Hp → Prop} {rt : VK} {b : Addr} {xs : List V} {g : TG} {tb : TS} (hs0 : SqL K H b xs) (Pv : Nat → L2.St → Hp → Prop) (h0 : Pv 0 σ H) (hl : ∀ i σ H, i ≤ xs.length → Pv i σ H → SqL K H b xs)
    (hs : ∀ (i : Nat) x σ H, xs[i]? = some x → Pv i σ H → g x σ H fun σ2 H2 => tb ⟨Pv (i + 1), rt, nx, Pv (i + 1)⟩ σ2 H2) (hd : ∀ σ H, Pv xs.length σ H → nx σ H) :
    ∃ a, V.ref b = .ref a ∧ (∃ xs, SqL K H a xs) ∧ ∃ W : Nat → Nat → L2.St → Hp → Prop, (∃ m, W 0 m σ H) ∧ ∀ i m σ H, W i m σ H →
      ((Itl K a).stop i H ∧ nx σ H) ∨ ((Itl K a).go i H ∧ ∃ N : L2.St → Hp → Prop, (∀ σ' H', N σ' H' → ∃ m', m' < m ∧ W (i + 1) m' σ' H') ∧ ∀ x H', (Itl K a).yld i H x H' → g x σ H' fun σ2 H2 => tb ⟨N, rt, nx, N⟩ σ2 H2) :=
  ⟨b, rfl, ⟨xs, hs0⟩, for_list (D := ⟨nx, rt, fun _ _ => False, fun _ _ => False⟩) Pv h0 hl hs hd⟩
theorem forR {nx : L2.St → Hp → Prop} {rt : VK} {lo : Int} {n : Nat} {g : TG} {tb : TS} (Pv : Nat → L2.St → Hp → Prop) (h0 : Pv 0 σ H)
    (hs : ∀ (i : Nat) σ H, i < n → Pv i σ H → g (.int (lo + i)) σ H fun σ2 H2 => tb ⟨Pv (i + 1), rt, nx, Pv (i + 1)⟩ σ2 H2) (hd : ∀ σ H, Pv n σ H → nx σ H) :
    ∃ W : Nat → Nat → L2.St → Hp → Prop, (∃ m, W 0 m σ H) ∧ ∀ i m σ H, W i m σ H →
      ((Itr lo n).stop i H ∧ nx σ H) ∨ ((Itr lo n).go i H ∧ ∃ N : L2.St → Hp → Prop, (∀ σ' H', N σ' H' → ∃ m', m' < m ∧ W (i + 1) m' σ' H') ∧ ∀ x H', (Itr lo n).yld i H x H' → g x σ H' fun σ2 H2 => tb ⟨N, rt, nx, N⟩ σ2 H2) :=
  for_range (D := ⟨nx, rt, fun _ _ => False, fun _ _ => False⟩) Pv h0 hs hd
theorem k_while {nx : L2.St → Hp → Prop} {rt : VK} {bk ct : L2.St → Hp → Prop} {c : TT} {tb : TS} (h : ∃ W : Nat → L2.St → Hp → Prop, (∃ m, W m σ H) ∧ ∀ m σ H, W m σ H →
  c σ H fun b H1 => if b = true then ∃ N : L2.St → Hp → Prop, (∀ σ' H', N σ' H' → ∃ m', m' < m ∧ W m' σ' H') ∧ tb ⟨N, rt, nx, N⟩ σ H1 else nx σ H1) : tWhile c tb ⟨nx, rt, bk, ct⟩ σ H := h
theorem whileW {nx : L2.St → Hp → Prop} {rt : VK} {bk ct : L2.St → Hp → Prop} {c : TT} {tb : TS} (W : Nat → L2.St → Hp → Prop) {m0 : Nat} (h0 : W m0 σ H)
    (hs : ∀ m σ H, W m σ H → c σ H fun b H1 => if b = true then tb ⟨fun σ' H' => ∃ m', m' < m ∧ W m' σ' H', rt, nx, fun σ' H' => ∃ m', m' < m ∧ W m' σ' H'⟩ σ H1 else nx σ H1)
    (mono : ∀ σ H (Q Q' : Bool → Hp → Prop), (∀ b H1, Q b H1 → Q' b H1) → c σ H Q → c σ H Q') : tWhile c tb ⟨nx, rt, bk, ct⟩ σ H := by
  refine ⟨W, ⟨m0, h0⟩, fun m σ H w => mono σ H _ _ (fun b H1 q => ?_) (hs m σ H w)⟩
  cases b with
  | true => exact ⟨_, fun σ' H' h => h, q⟩
  | false => exact q
theorem k_iList {R : It → Hp → Prop} (h : te σ H fun x H1 => ∃ a, x = .ref a ∧ (∃ xs, SqL K H1 a xs) ∧ R (Itl K a) H1) : iList K te σ H R := h
theorem k_iTup {R : It → Hp → Prop} (h : te σ H fun x H1 => ∃ a, x = .ref a ∧ (∃ xs, SqT K H1 a xs) ∧ R (Itt K a) H1) : iTup K te σ H R := h
theorem k_iZip {R : It → Hp → Prop} (h : tr σ H fun vs H1 => ∃ a b xs ys, vs = [.ref a, .ref b] ∧ SqL K H1 a xs ∧ SqL K H1 b ys ∧ R (Itz K a b) H1) : iZip K tr σ H R := h
theorem k_iEnum {R : It → Hp → Prop} (h : tr σ H fun vs H1 => ∃ a xs, vs = [.ref a] ∧ SqL K H1 a xs ∧ R (Ite K a) H1) : iEnum K tr σ H R := h
theorem k_iRng1 {R : It → Hp → Prop} (h : tr σ H fun vs H1 => ∃ j : Int, vs = [.int j] ∧ -(2 ^ 62) ≤ j ∧ j < 2 ^ 62 ∧ R (Itr 0 j.toNat) H1) : iRng1 tr σ H R := h
theorem k_iRng2 {R : It → Hp → Prop} (h : tr σ H fun vs H1 => ∃ i j : Int, vs = [.int i, .int j] ∧ (-(2 ^ 62) ≤ i ∧ i < 2 ^ 62 ∧ -(2 ^ 62) ≤ j ∧ j < 2 ^ 62) ∧ R (Itr i (j - i).toNat) H1) : iRng2 tr σ H R := h
theorem k_rj1 {j : Int} {R : Int → Prop} (h1 : -(2 ^ 62) ≤ j) (h2 : j < 2 ^ 62) (h : R j) : ∃ j' : Int, [V.int j] = [.int j'] ∧ -(2 ^ 62) ≤ j' ∧ j' < 2 ^ 62 ∧ R j' := ⟨j, rfl, h1, h2, h⟩
theorem k_rj2 {i j : Int} {R : Int → Int → Prop} (h1 : -(2 ^ 62) ≤ i ∧ i < 2 ^ 62 ∧ -(2 ^ 62) ≤ j ∧ j < 2 ^ 62) (h : R i j) : ∃ i' j' : Int, [V.int i, V.int j] = [.int i', .int j'] ∧ (-(2 ^ 62) ≤ i' ∧ i' < 2 ^ 62 ∧ -(2 ^ 62) ≤ j' ∧ j' < 2 ^ 62) ∧ R i' j' := ⟨i, j, rfl, h1, h⟩
theorem k_it {c A B : Prop} [Decidable c] (h1 : c → A) (h2 : ¬ c → B) : if decide c = true then A else B := by
  by_cases h : c
  · rw [if_pos (decide_eq_true h)]; exact h1 h
  · rw [decide_eq_false h]; exact h2 h
theorem k_itn {c A B : Prop} [Decidable c] (h1 : ¬ c → A) (h2 : c → B) : if (!decide c) = true then A else B := by
  by_cases h : c
  · rw [decide_eq_true h]; exact h2 h
  · rw [decide_eq_false h]; exact h1 h
theorem k_itb {b : Bool} {A B : Prop} (h1 : b = true → A) (h2 : b = false → B) : if b = true then A else B := by
  cases b with
  | true => exact h1 rfl
  | false => exact h2 rfl
theorem k_isi {x : V} {c : String} {tx : String} {b : Bool} (ht : TyX K H x (.type tx)) (hb : kitB tx c = some b) (h : Q (.bl b) H) : rIsi K [x, .ty c] H Q := ⟨x, .ty c, .type tx, .type c, b, rfl, .ty c, ht, kit_ty hb, h⟩

theorem ty_list {p : Addr} {xs : List V} (h : SqL K H p xs) : TyX K H (.ref p) (.type "list") := by
  rcases h with (h | ⟨o, h⟩) | ⟨o, its, n, h, c, _⟩
  · exact .base (.lst h)
  · exact .base (.frz h)
  · exact .kList h c
theorem k_isiL {p : Addr} {xs : List V} (hs : SqL K H p xs) (h : Q (.bl true) H) : rIsi K [.ref p, .ty "list"] H Q := k_isi (ty_list hs) (by decide +kernel) h
theorem k_isiLI {i : Int} (h : Q (.bl false) H) : rIsi K [.int i, .ty "list"] H Q := k_isi (.base (.int i)) (by decide +kernel) h
theorem k_isiI {i : Int} (h : Q (.bl true) H) : rIsi K [.int i, .ty "int"] H Q := k_isi (.base (.int i)) (by decide +kernel) h
theorem k_isiB {i : Int} (h : Q (.bl false) H) : rIsi K [.int i, .ty "bool"] H Q := k_isi (.base (.int i)) (by decide +kernel) h
theorem inV_ints (x : Int) : ∀ ns : List Int, inV (.int x) (ns.map V.int) = decide (x ∈ ns)
  | [] => rfl
  | n :: r => by
    show (eqV (.int n) (.int x) || inV (.int x) (r.map V.int)) = decide (x ∈ n :: r)
    rw [inV_ints x r]
    show ((n == x) || decide (x ∈ r)) = decide (x ∈ n :: r)
    by_cases h : n = x
    · subst h; simp
    · have : (n == x) = false := by simp [h]
      rw [this, Bool.false_or]
      have h' : ¬ x = n := fun e => h e.symm
      simp [h']
theorem flat_ints : ∀ ns : List Int, (ns.map V.int).all flatV = true
  | [] => rfl
  | _ :: r => by show (true && (r.map V.int).all flatV) = true; rw [flat_ints r]; rfl
theorem k_inI {p : Addr} {ns : List Int} {x : Int} (hs : SqL K H p (ns.map V.int)) (h : Q (.bl (decide (x ∈ ns))) H) : rIn K false (.int x) (.ref p) H Q :=
  ⟨p, _, rfl, .inl hs, rfl, flat_ints ns, by rw [if_neg Bool.false_ne_true, inV_ints]; exact h⟩
theorem k_notInI {p : Addr} {ns : List Int} {x : Int} (hs : SqL K H p (ns.map V.int)) (h : Q (.bl (!decide (x ∈ ns))) H) : rIn K true (.int x) (.ref p) H Q :=
  ⟨p, _, rfl, .inl hs, rfl, flat_ints ns, by rw [if_pos rfl, inV_ints]; exact h⟩
theorem k_intB {b : Bool} (h : Q (.int (if b then 1 else 0)) H) : rIntOf [.bl b] H Q := .inr ⟨b, rfl, h⟩
theorem at_int {ns : List Int} {i : Int} (h0 : 0 ≤ i) (h1 : i < ns.length) : atI (ns.map V.int) i = some (.int (ns.getD i.toNat 0)) := by
  obtain ⟨k, rfl⟩ : ∃ k : Nat, i = k := ⟨i.toNat, by omega⟩
  have h : k < ns.length := by omega
  refine atI_nat ?_
  rw [List.getElem?_map]
  simp [List.getElem?_eq_getElem h, List.getD_eq_getElem?_getD]
theorem k_ixI {p : Addr} {ns : List Int} {i : Int} (hs : SqL K H p (ns.map V.int)) (h0 : 0 ≤ i) (h1 : i < ns.length) (h : Q (.int (ns.getD i.toNat 0)) H) : rIxL K (.ref p) (.int i) H Q := k_ixL hs (at_int h0 h1) h
theorem k_eqD {x y : V} {c d : PyData} {n : Nat} (hx : Dp K H x c) (hy : Dp K H y d) (h1 : Sh n c) (h2 : Sh n d) (hn : n ≤ 64) (h : Q (.bl (PyData.eqv c d)) H) : rEqD K x y H Q := ⟨c, d, hx, hy, h1.shaped hn, h2.shaped hn, h⟩
theorem k_neD {x y : V} {c d : PyData} {n : Nat} (hx : Dp K H x c) (hy : Dp K H y d) (h1 : Sh n c) (h2 : Sh n d) (hn : n ≤ 64) (h : Q (.bl (!PyData.eqv c d)) H) : rNeD K x y H Q := ⟨c, d, hx, hy, h1.shaped hn, h2.shaped hn, h⟩
theorem k_neD0 {x y : V} {c : PyData} {n : Nat} (hx : Dp K H x c) (hy : Dp K H y c) (h1 : Sh n c) (hn : n ≤ 64) (h : Q (.bl false) H) : rNeD K x y H Q := k_neD hx hy h1 h1 hn (by rw [h1.refl]; exact h)
theorem k_eqD1 {x y : V} {c : PyData} {n : Nat} (hx : Dp K H x c) (hy : Dp K H y c) (h1 : Sh n c) (hn : n ≤ 64) (h : Q (.bl true) H) : rEqD K x y H Q := k_eqD hx hy h1 h1 hn (by rw [h1.refl]; exact h)
theorem k_getI {p : Addr} {ns : List Int} {i : Int} (hs : SqL K H p (ns.map V.int)) (h0 : 0 ≤ i) (h1 : i < ns.length) (h : Q (.int (ns.getD i.toNat 0)) H) : rGetL K (.ref p) (.int i) H Q := ⟨p, _, i, _, rfl, rfl, hs, h0, at_int h0 h1, h⟩
theorem k_setI {p : Addr} {ns : List Int} {k v : Int} {QH : Hp → Prop} (hp : H p = some (.lst (ns.map V.int))) (h0 : 0 ≤ k) (h1 : k < ns.length) (h : QH (upd H p (.lst ((ns.set k.toNat v).map V.int)))) : rSetL (.ref p) (.int k) (.int v) H QH :=
  ⟨p, _, k, k.toNat, rfl, rfl, hp, ixN_of h0 (by rw [List.length_map]; exact h1), by rw [List.map_set] at h; exact h⟩
theorem k_rep {p : Addr} {xs : List V} {k : Int} (hp : H p = some (.lst xs)) (h0 : 0 ≤ k) (h1 : k < 100000) (h2 : xs.length * k.toNat ≤ 100000) (h : ∀ l, H l = none → Q (.ref l) (upd H l (.lst (List.replicate k.toNat xs).flatten))) : rRep (.ref p) (.int k) H Q := ⟨p, k, xs, rfl, rfl, hp, by omega, by omega, sz h2, h⟩
theorem k_eqB {a b : Bool} (h : Q (.bl (decide (a = b))) H) : rEq (.bl a) (.bl b) H Q := ⟨rfl, by
  have e : decide (V.bl a = V.bl b) = decide (a = b) := by cases a <;> cases b <;> decide
  rw [e]; exact h⟩
theorem k_neB {a b : Bool} (h : Q (.bl (!decide (a = b))) H) : rNe (.bl a) (.bl b) H Q := ⟨rfl, by
  have e : decide (V.bl a = V.bl b) = decide (a = b) := by cases a <;> cases b <;> decide
  rw [e]; exact h⟩
/-- new objects, the heap behind as a letter -/
theorem k_newL {xs : List V} (hn : xs.length ≤ 100000) (h : ∀ p H', H p = none → Same H H' → H' p = some (.lst xs) → Q (.ref p) H') : xs.length ≤ sizeLine ∧ ∀ p, H p = none → Q (.ref p) (upd H p (.lst xs)) :=
  ⟨sz hn, fun p np => h p _ np (same_new np) upd_same⟩
theorem k_newT {xs : List V} (hn : xs.length ≤ 100000) (h : ∀ p H', H p = none → Same H H' → H' p = some (.tup xs) → Q (.ref p) H') : xs.length ≤ sizeLine ∧ ∀ p, H p = none → Q (.ref p) (upd H p (.tup xs)) :=
  ⟨sz hn, fun p np => h p _ np (same_new np) upd_same⟩
theorem k_listN {p : Addr} {ys : List V} (hs : SqL K H p ys) (h : ∀ l H', H l = none → Same H H' → H' l = some (.lst ys) → Q (.ref l) H') : rListOf K [.ref p] H Q := k_list hs fun l nl => h l _ nl (same_new nl) upd_same
theorem k_slL {a : Addr} {xs : List V} {lo hi : Option Int} (hs : SqL K H a xs) (h : ∀ p H', H p = none → Same H H' → H' p = some (.lst (cutV xs lo hi)) → Q (.ref p) H') : rSlL K (.ref a) lo hi H Q := ⟨a, xs, rfl, hs, fun p np => h p _ np (same_new np) upd_same⟩
theorem k_sl {r : V → Option Int → Option Int → Hp → VK → Prop} {tl th : TO} (h : te σ H fun x H1 => tl σ H1 fun l H2 => th σ H2 fun u H3 => r x l u H3 Q) : tSl r te tl th σ H Q := h
theorem k_nopart {QO : Option Int → Hp → Prop} (h : QO none H) : tNoPart σ H QO := h
theorem k_part {QO : Option Int → Hp → Prop} (h : te σ H fun x H1 => ∃ i, x = .int i ∧ QO (some i) H1) : tPart te σ H QO := h
theorem k_int {i : Int} {R : Int → Prop} (h : R i) : ∃ j, V.int i = .int j ∧ R j := ⟨i, rfl, h⟩
theorem rg_ints (a b : Int) : rgV a b = ((List.range (b - a).toNat).map fun i => a + (i : Nat)).map V.int := by
  unfold rgV; rw [List.map_map]; rfl
theorem k_listRg {tg : L2.St → Hp → (Int → Int → Hp → Prop) → Prop} (h : tg σ H fun a b H1 => RgOk a b ∧ ∀ q, H1 q = none → Q (.ref q) (upd H1 q (.lst (rgV a b)))) : tLstRg tg σ H Q := h
theorem k_rg1 {QR : Int → Int → Hp → Prop} (h : ta σ H fun x H1 => ∃ n, x = .int n ∧ QR 0 n H1) : tRg1 ta σ H QR := h
theorem k_rg2 {QR : Int → Int → Hp → Prop} (h : ta σ H fun x H1 => tb σ H1 fun y H2 => ∃ i j, x = .int i ∧ y = .int j ∧ QR i j H2) : tRg2 ta tb σ H QR := h
theorem k_int2 {i j : Int} {R : Int → Int → Prop} (h : R i j) : ∃ i' j', V.int i = .int i' ∧ V.int j = .int j' ∧ R i' j' := ⟨i, j, rfl, rfl, h⟩
theorem k_rgN {a b : Int} (hr : RgOk a b) (h : ∀ p H', H p = none → Same H H' → H' p = some (.lst (rgV a b)) → Q (.ref p) H') : RgOk a b ∧ ∀ q, H q = none → Q (.ref q) (upd H q (.lst (rgV a b))) := ⟨hr, fun q nq => h q _ nq (same_new nq) upd_same⟩
theorem dp_of_int {i j : Int} (e : i = j) : Dp K H (.int i) (.int j) := e ▸ .int i
end
/-! ### heaps with some places out of sight -/
def hid (S : List Addr) (H : Hp) : Hp := fun b => if b ∈ S then none else H b
theorem hid_ne {S : List Addr} {H : Hp} {b : Addr} (h : b ∉ S) : hid S H b = H b := if_neg h
theorem hid_in {S : List Addr} {H : Hp} {b : Addr} (h : b ∈ S) : hid S H b = none := if_pos h
theorem hid_some {S : List Addr} {H : Hp} {b : Addr} {o : HO} (h : hid S H b = some o) : b ∉ S ∧ H b = some o := by
  unfold hid at h
  split at h
  · cases h
  · exact ⟨by assumption, h⟩
theorem hid_same (S : List Addr) (H : Hp) : Same (hid S H) H := fun b o h => (hid_some h).2
theorem hid_mono {S : List Addr} {H H' : Hp} (e : Same H H') : Same (hid S H) (hid S H') := fun b o h => by
  obtain ⟨n, h⟩ := hid_some h
  rw [hid_ne n]
  exact e b o h
theorem hid_sub {S S' : List Addr} {H : Hp} (h : ∀ a ∈ S, a ∈ S') : Same (hid S' H) (hid S H) := fun b o e => by
  obtain ⟨n, e⟩ := hid_some e
  rw [hid_ne fun z => n (h b z)]
  exact e
/-- a change at a hidden place -/
theorem hid_upd {S : List Addr} {H : Hp} {p : Addr} {o : HO} (h : p ∈ S) : hid S (upd H p o) = hid S H := by
  funext b
  unfold hid
  split
  · rfl
  · rename_i n
    rw [upd_ne fun e => n (by rw [e]; exact h)]
theorem same_hid_upd {S : List Addr} {H0 H : Hp} {p : Addr} {o : HO} (e : Same H0 (hid S H)) (h : p ∈ S) : Same H0 (hid S (upd H p o)) := by rw [hid_upd h]; exact e
/-- what the law's data says stays when a fresh object is changed -/
theorem same_hid_mut {S : List Addr} {H0 H : Hp} {p : Addr} {o : HO} (e : Same H0 (hid S H)) (h : H0 p = none) : Same H0 (hid S (upd H p o)) := fun b u hb => by
  have := e b u hb
  obtain ⟨n, q⟩ := hid_some this
  rw [hid_ne n, upd_ne (ne_of_none hb h)]
  exact q
theorem hid_more {S S' : List Addr} {H H' : Hp} (e : Same (hid S H) (hid S H')) (h : ∀ a ∈ S, a ∈ S') : Same (hid S' H) (hid S' H') := fun b o hb => by
  obtain ⟨n, q⟩ := hid_some hb
  have n' : b ∉ S := fun z => n (h b z)
  have := e b o (by rw [hid_ne n']; exact q)
  rw [hid_ne n'] at this
  rw [hid_ne n]
  exact this
theorem same_hid_new {S : List Addr} {H : Hp} {p : Addr} {o : HO} (h : H p = none) : Same (hid S H) (hid S (upd H p o)) := hid_mono (same_new h)

theorem same_of_hid {S : List Addr} {H0 H1 H2 : Hp} (h : Same H0 H1) (f : ∀ a ∈ S, H0 a = none) (e : Same (hid S H1) (hid S H2)) : Same H0 H2 := fun b o hb => by
  have n : b ∉ S := fun z => by rw [f b z] at hb; cases hb
  have := e b o (by rw [hid_ne n]; exact h b o hb)
  rw [hid_ne n] at this
  exact this
theorem free1 {H0 : Hp} {p : Addr} (h : H0 p = none) : ∀ a ∈ [p], H0 a = none := fun a z => by rw [List.mem_singleton.mp z]; exact h
theorem cutTo {ns : List Int} (k : Nat) : cutV (ns.map V.int) none (some (k : Int)) = (ns.take k).map V.int := by
  unfold cutV
  rw [HT.sIx_none, HT.sIx_nat, List.drop_zero, List.length_map, Nat.sub_zero, List.map_take]
  by_cases h : k ≤ ns.length
  · rw [Nat.min_eq_left h]
  · rw [Nat.min_eq_right (by omega), List.take_of_length_le (by simp), List.take_of_length_le (by simp; omega)]
/-! ### the law's purse: a list of the cells and the turn -/
structure Pu (H : Hp) (pu ce : Addr) (n : Nat) (t : Int) : Prop where
  hp : H pu = some (.lst [.ref ce, .int t])
  hc : ∃ cs : List Int, cs.length = n ∧ H ce = some (.lst (cs.map V.int))
  n0 : 0 < n
  n1 : n ≤ 63
  t0 : 0 ≤ t
theorem Pu.ne {H : Hp} {pu ce : Addr} {n : Nat} {t : Int} (h : Pu H pu ce n t) : pu ≠ ce := fun e => by
  obtain ⟨cs, hl, hc⟩ := h.hc
  have hp := h.hp
  rw [e, hc] at hp
  cases cs with
  | nil => injection hp with hp; injection hp with hp; cases hp
  | cons x r => injection hp with hp; injection hp with hp; injection hp with h1 h2; cases h1
theorem Pu.fresh {H : Hp} {pu ce : Addr} {n : Nat} {t : Int} (h : Pu H pu ce n t) {p : Addr} (np : H p = none) : p ∉ [pu, ce] := fun z => by
  obtain ⟨cs, hl, hc⟩ := h.hc
  rcases List.mem_cons.mp z with rfl | z
  · rw [h.hp] at np; cases np
  · rcases List.mem_cons.mp z with rfl | z
    · rw [hc] at np; cases np
    · cases z
theorem Pu.upd {H : Hp} {pu ce : Addr} {n : Nat} {t : Int} (h : Pu H pu ce n t) {p : Addr} {o : HO} (np : p ∉ [pu, ce]) : Pu (upd H p o) pu ce n t := by
  have h1 : pu ≠ p := fun e => np (by rw [e]; exact List.mem_cons_self)
  have h2 : ce ≠ p := fun e => np (by rw [e]; exact List.mem_cons_of_mem _ List.mem_cons_self)
  obtain ⟨cs, hl, hc⟩ := h.hc
  exact ⟨by rw [upd_ne h1]; exact h.hp, ⟨cs, hl, by rw [upd_ne h2]; exact hc⟩, h.n0, h.n1, h.t0⟩
theorem Pu.same {H H' : Hp} {pu ce : Addr} {n : Nat} {t : Int} (h : Pu H pu ce n t) (e : Same H H') : Pu H' pu ce n t := by
  obtain ⟨cs, hl, hc⟩ := h.hc
  exact ⟨e _ _ h.hp, ⟨cs, hl, e _ _ hc⟩, h.n0, h.n1, h.t0⟩
/-- an object that is none of the purse's stays as it is -/
theorem keeps {S : List Addr} {H H' : Hp} (e : Same (hid S H) (hid S H')) {b : Addr} {o : HO} (hb : H b = some o) (n : b ∉ S) : H' b = some o := by
  have := e b o (by rw [hid_ne n]; exact hb)
  rw [hid_ne n] at this
  exact this
theorem fresh_hid {S : List Addr} {H H' : Hp} (e : Same (hid S H) (hid S H')) {b : Addr} (hb : H' b = none) (n : b ∉ S) : H b = none := by
  have := e.free (l := b) (by rw [hid_ne n]; exact hb)
  rw [hid_ne n] at this
  exact this
theorem getD_set_len {α : Type} (l : List α) (i : Nat) (v : α) : (l.set i v).length = l.length := List.length_set
theorem map_set_int (cs : List Int) (i : Nat) (v : Int) : (cs.map V.int).set i (.int v) = (cs.set i v).map V.int := by rw [List.map_set]

/-! ### the law's other purse: [a number, a mark, how many were drawn] -/
structure Le (H : Hp) (pu : Addr) (k : Int) : Prop where
  hp : ∃ x f : Int, H pu = some (.lst [.int x, .int f, .int k]) ∧ (f = 0 → 0 ≤ x ∧ x < 2147483629)
  k0 : 0 ≤ k
theorem Le.fresh {H : Hp} {pu : Addr} {k : Int} (h : Le H pu k) {p : Addr} (np : H p = none) : p ∉ [pu] := fun z => by
  obtain ⟨x, f, hp, _⟩ := h.hp
  rw [List.mem_singleton.mp z, hp] at np
  cases np
theorem Le.upd {H : Hp} {pu : Addr} {k : Int} (h : Le H pu k) {p : Addr} {o : HO} (np : p ∉ [pu]) : Le (upd H p o) pu k := by
  obtain ⟨x, f, hp, hx⟩ := h.hp
  exact ⟨⟨x, f, by rw [upd_ne fun e => np (by rw [e]; exact List.mem_singleton.mpr rfl)]; exact hp, hx⟩, h.k0⟩
theorem Le.same {H H' : Hp} {pu : Addr} {k : Int} (h : Le H pu k) (e : Same H H') : Le H' pu k := by
  obtain ⟨x, f, hp, hx⟩ := h.hp
  exact ⟨⟨x, f, e _ _ hp, hx⟩, h.k0⟩

/-! ### comprehensions whose block leaves the heap as it is -/
section
variable {K : PySem.W.Frag} {σ : L2.St} {H1 : Hp} {Q : VK} {g : TG} {tt : TT} {te : TE} {vs : List Nat}
theorem k_lc {wi : TI} (h : wi σ H1 fun J H1 => ∀ D, H1 D = none → ∃ W : Nat → Nat → Hp → Prop, (∃ m, W 0 m (upd H1 D (.lst []))) ∧ ∀ i m H, W i m H →
  (J.stop i H ∧ Q (.ref D) H) ∨ (J.go i H ∧ ∃ Nx : Hp → Prop, (∀ H', Nx H' → ∃ m', m' < m ∧ W (i + 1) m' H') ∧ ∀ x H', J.yld i H x H' → g x (wipe σ vs) H' fun σ2 H2 => wipe σ2 vs = wipe σ vs ∧ tt σ2 H2 fun b H3 =>
    if b = true then te σ2 H3 fun y H4 => ∃ acc, H4 D = some (.lst acc) ∧ acc.length < sizeLine ∧ Nx (upd H4 D (.lst (acc ++ [y]))) else Nx H3)) : tLc wi g tt te vs σ H1 Q := h
theorem k_wipe {σ' : L2.St} {R : Prop} (e : wipe σ' vs = wipe σ vs) (h : R) : wipe σ' vs = wipe σ vs ∧ R := ⟨e, h⟩
theorem k_yes {QT : Bool → Hp → Prop} (h : QT true H1) : tYes σ H1 QT := h
theorem take_filterMap {α β : Type} {f : α → Option β} {ps : List α} {i : Nat} {p : α} (h : ps[i]? = some p) : (ps.take (i + 1)).filterMap f = (ps.take i).filterMap f ++ (f p).toList := by
  rw [List.take_add_one, h, List.filterMap_append]
  simp [List.filterMap_cons]
  cases f p <;> rfl
/-- over a list of which ps tells the items -/
theorem lc_pure {QD : Addr → Hp → Prop} {α : Type} {a : Addr} {xs : List V} (hs : SqL K H1 a xs) (ps : List α) (hl : xs.length = ps.length) (hz : ps.length ≤ 50000) (f : α → Option V)
    (step : ∀ (i : Nat) x p H', xs[i]? = some x → ps[i]? = some p → Same H1 H' → ∀ (R : V → Hp → Prop) (R0 : Hp → Prop), (∀ y, f p = some y → R y H') → (f p = none → R0 H') →
      g x (wipe σ vs) H' fun σ2 H2 => wipe σ2 vs = wipe σ vs ∧ tt σ2 H2 fun b H3 => if b = true then te σ2 H3 R else R0 H3)
    (h : ∀ D H', H1 D = none → Same H1 H' → H' D = some (.lst (ps.filterMap f)) → QD D H') :
    ∃ a', V.ref a = .ref a' ∧ (∃ xs, SqL K H1 a' xs) ∧ ∀ D, H1 D = none → ∃ W : Nat → Nat → Hp → Prop, (∃ m, W 0 m (upd H1 D (.lst []))) ∧ ∀ i m H, W i m H →
      ((Itl K a').stop i H ∧ QD D H) ∨ ((Itl K a').go i H ∧ ∃ Nx : Hp → Prop, (∀ H', Nx H' → ∃ m', m' < m ∧ W (i + 1) m' H') ∧ ∀ x H', (Itl K a').yld i H x H' → g x (wipe σ vs) H' fun σ2 H2 => wipe σ2 vs = wipe σ vs ∧ tt σ2 H2 fun b H3 =>
        if b = true then te σ2 H3 fun y H4 => ∃ acc, H4 D = some (.lst acc) ∧ acc.length < sizeLine ∧ Nx (upd H4 D (.lst (acc ++ [y]))) else Nx H3) := by
  refine ⟨a, rfl, ⟨xs, hs⟩, fun D nD => lc_list (xs := xs) (fun i H => Same H1 H ∧ H D = some (.lst ((ps.take i).filterMap f))) ⟨same_new nD, by rw [upd_same]; simp⟩ (fun i H _ e => e.1.seq hs) ?_ ?_⟩
  · rintro i x H hx ⟨sm, hD⟩
    have hi : i < xs.length := (List.getElem?_eq_some_iff.mp hx).1
    obtain ⟨p, hp⟩ : ∃ p, ps[i]? = some p := ⟨ps[i]'(by omega), List.getElem?_eq_getElem (by omega)⟩
    have tk := take_filterMap (f := f) hp
    refine step i x p H hx hp sm _ _ (fun y hy => ⟨_, hD, szl ?_, same_mut sm nD, ?_⟩) (fun hn => ⟨sm, ?_⟩)
    · have := List.length_filterMap_le f (ps.take i)
      rw [List.length_take] at this
      omega
    · rw [upd_same, tk, hy]; rfl
    · rw [tk, hn, hD]; simp
  · rintro H ⟨sm, hD⟩
    rw [hl, List.take_length] at hD
    exact h D H nD sm hD
/-- the same where a turn may make new objects -/
theorem lc_grow {QD : Addr → Hp → Prop} {α : Type} {a : Addr} {xs : List V} (hs : SqL K H1 a xs) (ps : List α) (hl : xs.length = ps.length) (hz : ps.length ≤ 50000) (f : α → Option V)
    (step : ∀ (i : Nat) x p H', xs[i]? = some x → ps[i]? = some p → Same H1 H' → ∀ (R : V → Hp → Prop) (R0 : Hp → Prop), (∀ y H'', f p = some y → Same H' H'' → R y H'') → (∀ H'', f p = none → Same H' H'' → R0 H'') →
      g x (wipe σ vs) H' fun σ2 H2 => wipe σ2 vs = wipe σ vs ∧ tt σ2 H2 fun b H3 => if b = true then te σ2 H3 R else R0 H3)
    (h : ∀ D H', H1 D = none → Same H1 H' → H' D = some (.lst (ps.filterMap f)) → QD D H') :
    ∃ a', V.ref a = .ref a' ∧ (∃ xs, SqL K H1 a' xs) ∧ ∀ D, H1 D = none → ∃ W : Nat → Nat → Hp → Prop, (∃ m, W 0 m (upd H1 D (.lst []))) ∧ ∀ i m H, W i m H →
      ((Itl K a').stop i H ∧ QD D H) ∨ ((Itl K a').go i H ∧ ∃ Nx : Hp → Prop, (∀ H', Nx H' → ∃ m', m' < m ∧ W (i + 1) m' H') ∧ ∀ x H', (Itl K a').yld i H x H' → g x (wipe σ vs) H' fun σ2 H2 => wipe σ2 vs = wipe σ vs ∧ tt σ2 H2 fun b H3 =>
        if b = true then te σ2 H3 fun y H4 => ∃ acc, H4 D = some (.lst acc) ∧ acc.length < sizeLine ∧ Nx (upd H4 D (.lst (acc ++ [y]))) else Nx H3) := by
  refine ⟨a, rfl, ⟨xs, hs⟩, fun D nD => lc_list (xs := xs) (fun i H => Same H1 H ∧ H D = some (.lst ((ps.take i).filterMap f))) ⟨same_new nD, by rw [upd_same]; simp⟩ (fun i H _ e => e.1.seq hs) ?_ ?_⟩
  · rintro i x H hx ⟨sm, hD⟩
    have hi : i < xs.length := (List.getElem?_eq_some_iff.mp hx).1
    obtain ⟨p, hp⟩ : ∃ p, ps[i]? = some p := ⟨ps[i]'(by omega), List.getElem?_eq_getElem (by omega)⟩
    have tk := take_filterMap (f := f) hp
    refine step i x p H hx hp sm _ _ (fun y H'' hy s2 => ⟨_, s2 _ _ hD, szl ?_, same_mut (sm.trans s2) nD, ?_⟩) (fun H'' hn s2 => ⟨sm.trans s2, ?_⟩)
    · have := List.length_filterMap_le f (ps.take i)
      rw [List.length_take] at this
      omega
    · rw [upd_same, tk, hy]; rfl
    · rw [tk, hn, s2 _ _ hD]; simp
  · rintro H ⟨sm, hD⟩
    rw [hl, List.take_length] at hD
    exact h D H nD sm hD
theorem range_take {n i : Nat} (h : i < n) : (List.range n)[i]? = some i := by simp [h]
/-- over a range -/
theorem lc_pureR {QD : Addr → Hp → Prop} {lo : Int} {n : Nat} (hz : n ≤ 50000) (f : Nat → Option V)
    (step : ∀ (i : Nat) H', i < n → Same H1 H' → ∀ (R : V → Hp → Prop) (R0 : Hp → Prop), (∀ y, f i = some y → R y H') → (f i = none → R0 H') →
      g (.int (lo + (i : Nat))) (wipe σ vs) H' fun σ2 H2 => wipe σ2 vs = wipe σ vs ∧ tt σ2 H2 fun b H3 => if b = true then te σ2 H3 R else R0 H3)
    (h : ∀ D H', H1 D = none → Same H1 H' → H' D = some (.lst ((List.range n).filterMap f)) → QD D H') :
    ∀ D, H1 D = none → ∃ W : Nat → Nat → Hp → Prop, (∃ m, W 0 m (upd H1 D (.lst []))) ∧ ∀ i m H, W i m H →
      ((Itr lo n).stop i H ∧ QD D H) ∨ ((Itr lo n).go i H ∧ ∃ Nx : Hp → Prop, (∀ H', Nx H' → ∃ m', m' < m ∧ W (i + 1) m' H') ∧ ∀ x H', (Itr lo n).yld i H x H' → g x (wipe σ vs) H' fun σ2 H2 => wipe σ2 vs = wipe σ vs ∧ tt σ2 H2 fun b H3 =>
        if b = true then te σ2 H3 fun y H4 => ∃ acc, H4 D = some (.lst acc) ∧ acc.length < sizeLine ∧ Nx (upd H4 D (.lst (acc ++ [y]))) else Nx H3) := by
  refine fun D nD => lc_range (fun i H => Same H1 H ∧ H D = some (.lst (((List.range n).take i).filterMap f))) ⟨same_new nD, by rw [upd_same]; simp⟩ ?_ ?_
  · rintro i H hi ⟨sm, hD⟩
    have tk := take_filterMap (f := f) (range_take hi)
    refine step i H hi sm _ _ (fun y hy => ⟨_, hD, szl ?_, same_mut sm nD, ?_⟩) (fun hn => ⟨sm, ?_⟩)
    · have := List.length_filterMap_le f ((List.range n).take i)
      rw [List.length_take, List.length_range] at this
      omega
    · rw [upd_same, tk, hy]; rfl
    · rw [tk, hn, hD]; simp
  · rintro H ⟨sm, hD⟩
    rw [List.take_of_length_le (by simp)] at hD
    exact h D H nD sm hD
end
/-! ### min, max of a pair -/
def rMinT (K : PySem.W.Frag) : List V → Hp → VK → Prop := fun xs H Q => ∃ (p : Addr) (a b : Int), xs = [.ref p] ∧ SqT K H p [.int a, .int b] ∧ Q (.int (min a b)) H
def rMaxT (K : PySem.W.Frag) : List V → Hp → VK → Prop := fun xs H Q => ∃ (p : Addr) (a b : Int), xs = [.ref p] ∧ SqT K H p [.int a, .int b] ∧ Q (.int (max a b)) H
theorem reads_int {h : Heap} {v : Value} {n : Int} {as : List Addr} (r : Reads h v (.int n) as) : ∃ t, v = .int n t := by
  cases r; exact ⟨_, rfl⟩
theorem alike2 (a b : Int) : PySem.W.AlikeAll [.int a, .int b] := by
  refine ⟨fun x hx y hy => ?_, fun x hx => ?_⟩
  · simp only [List.mem_cons, List.not_mem_nil, or_false] at hx hy
    rcases hx with rfl | rfl <;> rcases hy with rfl | rfl <;> rfl
  · simp only [List.mem_cons, List.not_mem_nil, or_false] at hx
    rcases hx with rfl | rfl <;> (intro z; cases z)
theorem q_minT {X : Cx} (hc : X.calm = true) (hu : X.A.units + 64 < cLine) : CallR X (.builtin "min") (rMinT X.K) := by
  intro pins s σ H vs us Q I r h
  obtain ⟨p, a, b, rfl, hs, q⟩ := h
  obtain ⟨its, rv, hl, _⟩ := I.tuple hs
  rw [Vals.ref1 r]
  have ri : IntsAre its [a, b] := Vals.ints (ns := [a, b]) rv
  refine PySem.W.min_tuple_data (x := .int a) (xs := [.int b]) (as := []) (I.ok.hd hc) hl (ri.reads _) (alike2 a b) ?_ fun i v h' tk bs hi rd hk => ?_
  · have : PyData.depthAll [.int a, .int b] = 0 := rfl
    omega
  · rw [show PySem.W.minD (.int a) [.int b] = .int (min a b) from PySem.W.minD_ints a [b]] at rd
    obtain ⟨t, rfl⟩ := reads_int rd
    exact ⟨.int _, H, I.kept hk, ⟨_, rfl⟩, q⟩
theorem q_maxT {X : Cx} (hc : X.calm = true) (hu : X.A.units + 64 < cLine) : CallR X (.builtin "max") (rMaxT X.K) := by
  intro pins s σ H vs us Q I r h
  obtain ⟨p, a, b, rfl, hs, q⟩ := h
  obtain ⟨its, rv, hl, _⟩ := I.tuple hs
  rw [Vals.ref1 r]
  have ri : IntsAre its [a, b] := Vals.ints (ns := [a, b]) rv
  refine PySem.W.max_tuple_data (x := .int a) (xs := [.int b]) (as := []) (I.ok.hd hc) hl (ri.reads _) (alike2 a b) ?_ fun i v h' tk bs hi rd hk => ?_
  · have : PyData.depthAll [.int a, .int b] = 0 := rfl
    omega
  · rw [show PySem.W.maxD (.int a) [.int b] = .int (max a b) from PySem.W.maxD_ints a [b]] at rd
    obtain ⟨t, rfl⟩ := reads_int rd
    exact ⟨.int _, H, I.kept hk, ⟨_, rfl⟩, q⟩
theorem k_minT {K : PySem.W.Frag} {H : Hp} {Q : VK} {p : Addr} {a b : Int} (hs : SqT K H p [.int a, .int b]) (h : Q (.int (min a b)) H) : rMinT K [.ref p] H Q := ⟨p, a, b, rfl, hs, h⟩
theorem k_maxT {K : PySem.W.Frag} {H : Hp} {Q : VK} {p : Addr} {a b : Int} (hs : SqT K H p [.int a, .int b]) (h : Q (.int (max a b)) H) : rMaxT K [.ref p] H Q := ⟨p, a, b, rfl, hs, h⟩
end Cm

namespace Cm
open PySem PySem.Spec PyProof.Rows L2
/-! ### steps of a reading, found by instances -/
class Stp (p : Prop) (q : outParam Prop) : Prop where
  run : q → p
class Stps (p : Prop) (q : outParam Prop) : Prop where
  run : q → p
class Stps1 (p : Prop) (q : outParam Prop) : Prop where
  run : q → p
instance (priority := low) stps_nil {p : Prop} : Stps p p := ⟨id⟩
instance (priority := high) stps_cons {p q r : Prop} [a : Stp p q] [b : Stps q r] : Stps p r := ⟨fun h => a.run (b.run h)⟩
instance stps_one {p q r : Prop} [a : Stp p q] [b : Stps q r] : Stps1 p r := ⟨fun h => a.run (b.run h)⟩
theorem go {p q : Prop} [a : Stps1 p q] (h : q) : p := a.run h
class Slot (σ : L2.St) (i : Nat) (v : outParam V) : Prop where
  get : σ[i]? = some (some v)
instance {v : V} {r : L2.St} : Slot (some v :: r) 0 v := ⟨rfl⟩
instance {x : Option V} {v : V} {r : L2.St} {i : Nat} [a : Slot r i v] : Slot (x :: r) (i + 1) v := ⟨a.get⟩
class Put (σ : L2.St) (i : Nat) (v : Option V) (σ' : outParam L2.St) : Prop where
  eq : σ.set i v = σ'
instance {x v : Option V} {r : L2.St} : Put (x :: r) 0 v (v :: r) := ⟨rfl⟩
instance {x v : Option V} {r r' : L2.St} {i : Nat} [a : Put r i v r'] : Put (x :: r) (i + 1) v (x :: r') := ⟨by rw [List.set_cons_succ, a.eq]⟩
instance {σ σ0 σ' : L2.St} {j : Nat} {w : Option V} {i : Nat} {v : Option V} [a : Put σ j w σ0] [b : Put σ0 i v σ'] : Put (List.set σ j w) i v σ' := ⟨by rw [a.eq, b.eq]⟩
instance {σ σ0 : L2.St} {j : Nat} {w : Option V} {i : Nat} {v : V} [a : Put σ j w σ0] [b : Slot σ0 i v] : Slot (List.set σ j w) i v := ⟨by rw [a.eq, b.get]⟩
class Wip (σ : L2.St) (vs : List Nat) (σ' : outParam L2.St) : Prop where
  eq : wipe σ vs = σ'
instance {σ : L2.St} : Wip σ [] σ := ⟨rfl⟩
instance {σ σ' σ'' : L2.St} {i : Nat} {vs : List Nat} [b : Wip σ vs σ'] [a : Put σ' i none σ''] : Wip σ (i :: vs) σ'' := ⟨by
  show (wipe σ vs).set i none = σ''
  rw [b.eq, a.eq]⟩
instance {σ σ0 σ' : L2.St} {vs : List Nat} {i : Nat} {v : Option V} [a : Wip σ vs σ0] [b : Put σ0 i v σ'] : Put (wipe σ vs) i v σ' := ⟨by rw [a.eq, b.eq]⟩
/-- a new list, a new tuple -/
def newL (xs : List V) (H : Hp) (Q : VK) : Prop := xs.length ≤ sizeLine ∧ ∀ p, H p = none → Q (.ref p) (upd H p (.lst xs))
def newT (xs : List V) (H : Hp) (Q : VK) : Prop := xs.length ≤ sizeLine ∧ ∀ p, H p = none → Q (.ref p) (upd H p (.tup xs))
def newR (a b : Int) (H : Hp) (Q : VK) : Prop := RgOk a b ∧ ∀ q, H q = none → Q (.ref q) (upd H q (.lst (rgV a b)))
theorem kL {xs : List V} {H : Hp} {Q : VK} (hn : xs.length ≤ 100000) (h : ∀ p H', H p = none → Same H H' → H' p = some (.lst xs) → Q (.ref p) H') : newL xs H Q := ⟨sz hn, fun p np => h p _ np (same_new np) upd_same⟩
theorem kT {xs : List V} {H : Hp} {Q : VK} (hn : xs.length ≤ 100000) (h : ∀ p H', H p = none → Same H H' → H' p = some (.tup xs) → Q (.ref p) H') : newT xs H Q := ⟨sz hn, fun p np => h p _ np (same_new np) upd_same⟩
theorem kR {a b : Int} {H : Hp} {Q : VK} (hr : RgOk a b) (h : ∀ p H', H p = none → Same H H' → H' p = some (.lst (rgV a b)) → Q (.ref p) H') : newR a b H Q := ⟨hr, fun q nq => h q _ nq (same_new nq) upd_same⟩
section
variable {K : PySem.W.Frag} {σ σ' : L2.St} {H : Hp} {D : Ends} {Q : VK} {ta tb tc te to ti : TE} {t u : TT} {s1 s2 : TS} {QT : Bool → Hp → Prop} {QA : List V → Hp → Prop} {tr : TA} {QS : L2.St → Hp → Prop} {nx bk ct : L2.St → Hp → Prop} {rt : VK} {g : TG} {gs : TGs} {i j : Nat} {v w : V} {a b : Int} {wi : TI} {tS : TS}
instance : Stp (tSeq s1 s2 ⟨nx, rt, bk, ct⟩ σ H) (s1 ⟨s2 ⟨nx, rt, bk, ct⟩, rt, bk, ct⟩ σ H) := ⟨k_seq⟩
instance : Stp (tNext ⟨nx, rt, bk, ct⟩ σ H) (nx σ H) := ⟨k_next⟩
instance : Stp (tCont ⟨nx, rt, bk, ct⟩ σ H) (ct σ H) := ⟨k_cont⟩
instance : Stp (tBreak ⟨nx, rt, bk, ct⟩ σ H) (bk σ H) := ⟨k_brk⟩
instance : Stp (tAsg te g ⟨nx, rt, bk, ct⟩ σ H) (te σ H fun x H1 => g x σ H1 nx) := ⟨k_asg⟩
instance : Stp (tDrop te ⟨nx, rt, bk, ct⟩ σ H) (te σ H fun _ H1 => nx σ H1) := ⟨k_drop⟩
instance : Stp (tRet te ⟨nx, rt, bk, ct⟩ σ H) (te σ H rt) := ⟨k_ret⟩
instance : Stp (tRetN ⟨nx, rt, bk, ct⟩ σ H) (rt .non H) := ⟨k_retN⟩
instance {f : Int → Int → Int} [e : Slot σ i (.int a)] : Stp (tAug i te (ipI f) ⟨nx, rt, bk, ct⟩ σ H) (te σ H fun y H1 => ipI f (.int a) y H1 fun z H2 => gName i z σ H2 nx) := ⟨fun h => k_aug e.get h⟩
instance {f : Int → Int → Int} : Stp (ipI f (.int a) (.int b) H Q) (Q (.int (f a b)) H) := ⟨k_ipI⟩
instance : Stp (xAugL K to ti te ⟨nx, rt, bk, ct⟩ σ H) (to σ H fun o H1 => ti σ H1 fun i H2 => rGetL K o i H2 fun x H3 => te σ H3 fun y H4 => ipI (fun i j => i + j) x y H4 fun z H5 => rSetL o i z H5 fun H6 => nx σ H6) := ⟨k_augL⟩
instance : Stp (tIfS t s1 s2 D σ H) (t σ H fun b H1 => if b = true then s1 D σ H1 else s2 D σ H1) := ⟨k_if⟩
instance [e : Slot σ i v] : Stp (tVar i σ H Q) (Q v H) := ⟨fun h => k_var e.get h⟩
instance : Stp (tC v σ H Q) (Q v H) := ⟨k_c⟩
instance {r : R2} : Stp (tOp r ta tb σ H Q) (ta σ H fun x H1 => tb σ H1 fun y H2 => r x y H2 Q) := ⟨k_op⟩
instance {r : V → Hp → VK → Prop} : Stp (tUn r ta σ H Q) (ta σ H fun x H1 => r x H1 Q) := ⟨k_un⟩
instance : Stp (xAdd (.int a) (.int b) H Q) (Q (.int (a + b)) H) := ⟨k_add⟩
instance : Stp (xSub (.int a) (.int b) H Q) (Q (.int (a - b)) H) := ⟨k_sub⟩
instance : Stp (xLt (.int a) (.int b) H Q) (Q (.bl (decide (a < b))) H) := ⟨k_lt⟩
instance : Stp (xLe (.int a) (.int b) H Q) (Q (.bl (decide (a ≤ b))) H) := ⟨k_le⟩
instance : Stp (xGt (.int a) (.int b) H Q) (Q (.bl (decide (b < a))) H) := ⟨k_gt⟩
instance : Stp (xGe (.int a) (.int b) H Q) (Q (.bl (decide (b ≤ a))) H) := ⟨k_ge⟩
instance : Stp (xNeg (.int a) H Q) (Q (.int (-a)) H) := ⟨k_neg⟩
instance : Stp (rEq (.int a) (.int b) H Q) (Q (.bl (decide (a = b))) H) := ⟨k_eqI⟩
instance : Stp (rNe (.int a) (.int b) H Q) (Q (.bl (!decide (a = b))) H) := ⟨k_neI⟩
instance {a b : Bool} : Stp (rEq (.bl a) (.bl b) H Q) (Q (.bl (decide (a = b))) H) := ⟨k_eqB⟩
instance {a b : Bool} : Stp (rNe (.bl a) (.bl b) H Q) (Q (.bl (!decide (a = b))) H) := ⟨k_neB⟩
theorem k_eqNN (h : Q (.bl true) H) : rEq .non .non H Q := ⟨rfl, h⟩
theorem k_isN0 (h : Q (.bl true) H) : xIsN .non .non H Q := ⟨rfl, h⟩
theorem k_isNr {p : Addr} (h : Q (.bl false) H) : xIsN (.ref p) .non H Q := ⟨rfl, by rw [decide_eq_false (by intro z; cases z)]; exact h⟩
theorem k_isNi (h : Q (.bl false) H) : xIsN (.int a) .non H Q := ⟨rfl, by rw [decide_eq_false (by intro z; cases z)]; exact h⟩
theorem k_notN0 (h : Q (.bl false) H) : xNotN .non .non H Q := ⟨rfl, h⟩
theorem k_notNr {p : Addr} (h : Q (.bl true) H) : xNotN (.ref p) .non H Q := ⟨rfl, by rw [decide_eq_false (by intro z; cases z)]; exact h⟩
theorem k_notNi (h : Q (.bl true) H) : xNotN (.int a) .non H Q := ⟨rfl, by rw [decide_eq_false (by intro z; cases z)]; exact h⟩
instance : Stp (xIsN .non .non H Q) (Q (.bl true) H) := ⟨k_isN0⟩
instance {p : Addr} : Stp (xIsN (.ref p) .non H Q) (Q (.bl false) H) := ⟨k_isNr⟩
instance : Stp (xIsN (.int a) .non H Q) (Q (.bl false) H) := ⟨k_isNi⟩
instance : Stp (xNotN .non .non H Q) (Q (.bl false) H) := ⟨k_notN0⟩
instance {p : Addr} : Stp (xNotN (.ref p) .non H Q) (Q (.bl true) H) := ⟨k_notNr⟩
instance : Stp (xNotN (.int a) .non H Q) (Q (.bl true) H) := ⟨k_notNi⟩
instance : Stp (tTest te σ H QT) (te σ H fun x H1 => ∃ k, x = .bl k ∧ QT k H1) := ⟨k_test⟩
instance : Stp (tB te σ H QT) (te σ H fun x H1 => ∃ k, x = .bl k ∧ QT k H1) := ⟨k_B⟩
instance {b : Bool} {R : Bool → Prop} : Stp (∃ k, V.bl b = .bl k ∧ R k) (R b) := ⟨k_bl⟩
instance {R : Int → Prop} : Stp (∃ j, V.int a = .int j ∧ R j) (R a) := ⟨k_int⟩
instance {R : Int → Int → Prop} : Stp (∃ i' j', V.int a = .int i' ∧ V.int b = .int j' ∧ R i' j') (R a b) := ⟨k_int2⟩
instance : Stp (tAnd t u σ H QT) (t σ H fun c H1 => if c = true then u σ H1 QT else QT false H1) := ⟨k_and⟩
instance : Stp (tOr t u σ H QT) (t σ H fun c H1 => if c = true then QT true H1 else u σ H1 QT) := ⟨k_or⟩
instance : Stp (tNot t σ H QT) (t σ H fun c H1 => QT (!c) H1) := ⟨k_not⟩
instance : Stp (tNotV ta σ H Q) (ta σ H fun x H1 => ∃ c, x = .bl c ∧ Q (.bl (!c)) H1) := ⟨k_notV⟩
instance : Stp (tAndV ta tb σ H Q) (ta σ H fun x H1 => ∃ c, x = .bl c ∧ if c = true then tb σ H1 Q else Q (.bl false) H1) := ⟨k_andV⟩
instance : Stp (tOrV ta tb σ H Q) (ta σ H fun x H1 => ∃ c, x = .bl c ∧ if c = true then Q (.bl true) H1 else tb σ H1 Q) := ⟨k_orV⟩
instance {r : List V → Hp → VK → Prop} : Stp (tCB r tr σ H Q) (tr σ H fun vs H1 => r vs H1 Q) := ⟨k_cb⟩
instance : Stp (tNil σ H QA) (QA [] H) := ⟨k_nil⟩
instance : Stp (tCons ta tr σ H QA) (ta σ H fun x H1 => tr σ H1 fun xs H2 => QA (x :: xs) H2) := ⟨k_cons⟩
instance {sp : Sp} {E : XK} : Stp (tCall sp [] E tr σ H Q) (tr σ H fun vs H1 => sp vs H1 Q E) := ⟨fun h => k_call (by simpa only [List.append_nil] using h)⟩
instance : Stp (tLst tr σ H Q) (tr σ H fun xs H1 => newL xs H1 Q) := ⟨k_lst⟩
instance : Stp (tTup tr σ H Q) (tr σ H fun xs H1 => newT xs H1 Q) := ⟨k_tup⟩
instance {r : List V} : Stp (gCons g gs (v :: r) σ H QS) (g v σ H fun σ' H' => gs r σ' H' QS) := ⟨k_gcons⟩
instance : Stp (gNil [] σ H QS) (QS σ H) := ⟨k_gnil⟩
instance [e : Put σ i (some v) σ'] : Stp (gName i v σ H QS) (QS σ' H) := ⟨fun h => k_gname (by rw [e.eq]; exact h)⟩
instance {ts : TSet} : Stp (gSub to ti ts v σ H QS) (to σ H fun o H1 => ti σ H1 fun i H2 => ts o i v H2 fun H3 => QS σ H3) := ⟨k_gsub⟩
instance : Stp (rMax2 [.int a, .int b] H Q) (Q (.int (if b > a then b else a)) H) := ⟨k_max2⟩
instance : Stp (rMin2 [.int a, .int b] H Q) (Q (.int (if b < a then b else a)) H) := ⟨k_min2⟩
instance {T : String} {r : V → List V → Hp → VK → Prop} : Stp (tBM K T r ta tr σ H Q) (ta σ H fun x H1 => tyV K T x H1 ∧ tr σ H1 fun xs H2 => r x xs H2 Q) := ⟨k_bm⟩
instance {T : String} {r : V → List V → Hp → VK → Prop} : Stp (tBM0 K T r ta σ H Q) (ta σ H fun x H1 => tyV K T x H1 ∧ r x [] H1 Q) := ⟨k_bm0⟩
instance {A B : Prop} {i : Decidable (true = true)} : Stp (@ite Prop (true = true) i A B) A := ⟨fun h => by rw [if_pos rfl]; exact h⟩
instance {A B : Prop} {i : Decidable (false = true)} : Stp (@ite Prop (false = true) i A B) B := ⟨fun h => by rw [if_neg (by simp)]; exact h⟩
instance {A B : Prop} {i : Decidable ((!true) = true)} : Stp (@ite Prop ((!true) = true) i A B) B := ⟨fun h => by rw [if_neg (by simp)]; exact h⟩
instance {A B : Prop} {i : Decidable ((!false) = true)} : Stp (@ite Prop ((!false) = true) i A B) A := ⟨fun h => by rw [if_pos (by simp)]; exact h⟩
instance : Stp (tFor wi g tS ⟨nx, rt, bk, ct⟩ σ H) (wi σ H fun J H1 => ∃ W : Nat → Nat → L2.St → Hp → Prop, (∃ m, W 0 m σ H1) ∧ ∀ i m σ H, W i m σ H →
  (J.stop i H ∧ nx σ H) ∨ (J.go i H ∧ ∃ N : L2.St → Hp → Prop, (∀ σ' H', N σ' H' → ∃ m', m' < m ∧ W (i + 1) m' σ' H') ∧ ∀ x H', J.yld i H x H' → g x σ H' fun σ2 H2 => tS ⟨N, rt, nx, N⟩ σ2 H2)) := ⟨k_for⟩
instance {R : It → Hp → Prop} : Stp (iList K te σ H R) (te σ H fun x H1 => ∃ a, x = .ref a ∧ (∃ xs, SqL K H1 a xs) ∧ R (Itl K a) H1) := ⟨k_iList⟩
instance {R : It → Hp → Prop} : Stp (iTup K te σ H R) (te σ H fun x H1 => ∃ a, x = .ref a ∧ (∃ xs, SqT K H1 a xs) ∧ R (Itt K a) H1) := ⟨k_iTup⟩
instance {R : It → Hp → Prop} : Stp (iZip K tr σ H R) (tr σ H fun vs H1 => ∃ a b xs ys, vs = [.ref a, .ref b] ∧ SqL K H1 a xs ∧ SqL K H1 b ys ∧ R (Itz K a b) H1) := ⟨k_iZip⟩
instance {R : It → Hp → Prop} : Stp (iEnum K tr σ H R) (tr σ H fun vs H1 => ∃ a xs, vs = [.ref a] ∧ SqL K H1 a xs ∧ R (Ite K a) H1) := ⟨k_iEnum⟩
instance {R : It → Hp → Prop} : Stp (iRng1 tr σ H R) (tr σ H fun vs H1 => ∃ j : Int, vs = [.int j] ∧ -(2 ^ 62) ≤ j ∧ j < 2 ^ 62 ∧ R (Itr 0 j.toNat) H1) := ⟨k_iRng1⟩
instance {R : It → Hp → Prop} : Stp (iRng2 tr σ H R) (tr σ H fun vs H1 => ∃ i j : Int, vs = [.int i, .int j] ∧ (-(2 ^ 62) ≤ i ∧ i < 2 ^ 62 ∧ -(2 ^ 62) ≤ j ∧ j < 2 ^ 62) ∧ R (Itr i (j - i).toNat) H1) := ⟨k_iRng2⟩
instance {vs : List Nat} : Stp (tLc wi g t te vs σ H Q) (wi σ H fun J H1 => ∀ D, H1 D = none → ∃ W : Nat → Nat → Hp → Prop, (∃ m, W 0 m (upd H1 D (.lst []))) ∧ ∀ i m H, W i m H →
  (J.stop i H ∧ Q (.ref D) H) ∨ (J.go i H ∧ ∃ Nx : Hp → Prop, (∀ H', Nx H' → ∃ m', m' < m ∧ W (i + 1) m' H') ∧ ∀ x H', J.yld i H x H' → g x (wipe σ vs) H' fun σ2 H2 => wipe σ2 vs = wipe σ vs ∧ t σ2 H2 fun b H3 =>
    if b = true then te σ2 H3 fun y H4 => ∃ acc, H4 D = some (.lst acc) ∧ acc.length < sizeLine ∧ Nx (upd H4 D (.lst (acc ++ [y]))) else Nx H3)) := ⟨k_lc⟩
instance : Stp (tYes σ H QT) (QT true H) := ⟨k_yes⟩
instance {r : V → Option Int → Option Int → Hp → VK → Prop} {tl th : TO} : Stp (tSl r te tl th σ H Q) (te σ H fun x H1 => tl σ H1 fun l H2 => th σ H2 fun u H3 => r x l u H3 Q) := ⟨k_sl⟩
instance {QO : Option Int → Hp → Prop} : Stp (tNoPart σ H QO) (QO none H) := ⟨k_nopart⟩
instance {QO : Option Int → Hp → Prop} : Stp (tPart te σ H QO) (te σ H fun x H1 => ∃ i, x = .int i ∧ QO (some i) H1) := ⟨k_part⟩
instance {tg : L2.St → Hp → (Int → Int → Hp → Prop) → Prop} : Stp (tLstRg tg σ H Q) (tg σ H fun a b H1 => newR a b H1 Q) := ⟨k_listRg⟩
instance {QR : Int → Int → Hp → Prop} : Stp (tRg1 ta σ H QR) (ta σ H fun x H1 => ∃ n, x = .int n ∧ QR 0 n H1) := ⟨k_rg1⟩
instance {QR : Int → Int → Hp → Prop} : Stp (tRg2 ta tb σ H QR) (ta σ H fun x H1 => tb σ H1 fun y H2 => ∃ i j, x = .int i ∧ y = .int j ∧ QR i j H2) := ⟨k_rg2⟩
instance : Stp (rIsi K [.int a, .ty "int"] H Q) (Q (.bl true) H) := ⟨k_isiI⟩
instance : Stp (rIsi K [.int a, .ty "bool"] H Q) (Q (.bl false) H) := ⟨k_isiB⟩
instance : Stp (rIsi K [.int a, .ty "list"] H Q) (Q (.bl false) H) := ⟨k_isiLI⟩
instance {b : Bool} : Stp (rIntOf [.bl b] H Q) (Q (.int (if b then 1 else 0)) H) := ⟨k_intB⟩
theorem k_chain {r r' : R2} (h : ta σ H fun x H1 => tb σ H1 fun y H2 => r x y H2 fun z H3 => ∃ k, z = .bl k ∧ if k = true then tc σ H3 fun z H4 => r' y z H4 Q else Q (.bl false) H3) : tChain r r' ta tb tc σ H Q := h
instance {r r' : R2} : Stp (tChain r r' ta tb tc σ H Q) (ta σ H fun x H1 => tb σ H1 fun y H2 => r x y H2 fun z H3 => ∃ k, z = .bl k ∧ if k = true then tc σ H3 fun z H4 => r' y z H4 Q else Q (.bl false) H3) := ⟨k_chain⟩
theorem k_ifE (h : t σ H fun c H1 => if c = true then ta σ H1 Q else tb σ H1 Q) : tIf t ta tb σ H Q := h
instance : Stp (tIf t ta tb σ H Q) (t σ H fun c H1 => if c = true then ta σ H1 Q else tb σ H1 Q) := ⟨k_ifE⟩
def par2 (i j : Nat) (vs : List V) (σ : L2.St) (H : Hp) (nx : L2.St → Hp → Prop) : Prop := ∃ v w, vs = [v, w] ∧ nx ((σ.set i (some v)).set j (some w)) H
instance : Stp (tPar i j tr ⟨nx, rt, bk, ct⟩ σ H) (tr σ H fun vs H1 => par2 i j vs σ H1 nx) := ⟨fun h => h⟩
instance {σ'' : L2.St} [e : Put σ i (some v) σ'] [e2 : Put σ' j (some w) σ''] : Stp (par2 i j [v, w] σ H nx) (nx σ'' H) := ⟨fun h => ⟨v, w, rfl, by rw [e.eq, e2.eq]; exact h⟩⟩
end
/-! ### bits -/
def xShl : R2 := rI CPow fun i j => .int (i * 2 ^ j.toNat)
def xAnd : R2 := rI0 fun i j => .int (Builtin.bitAnd i j)
theorem k_shl {H : Hp} {Q : VK} {i j : Int} (hc : CPow i j) (h : Q (.int (i * 2 ^ j.toNat)) H) : xShl (.int i) (.int j) H Q := ⟨i, j, rfl, rfl, hc, h⟩
instance {H : Hp} {Q : VK} {i j : Int} : Stp (xAnd (.int i) (.int j) H Q) (Q (.int (Builtin.bitAnd i j)) H) := ⟨fun h => ⟨i, j, rfl, rfl, h⟩⟩
/-! ### list.count of flat values -/
def cntV (y : V) (ys : List V) : Nat := ys.countP fun z => eqV z y
def rCntV (K : PySem.W.Frag) : V → List V → Hp → VK → Prop := fun x xs H Q => ∃ (a : Addr) (ys : List V) (y : V), x = V.ref a ∧ xs = [y] ∧ SqL K H a ys ∧ flatV y = true ∧ ys.all flatV = true ∧ Q (.int (cntV y ys : Nat)) H
theorem cntV_eq {y : V} : ∀ {ys : List V} {its : List Value}, Vals ys its → ys.all flatV = true → its.countP (eqU y) = cntV y ys
  | _, _, .nil, _ => rfl
  | a :: as, _ :: _, .cons r rs, f => by
    have f1 : flatV a = true ∧ as.all flatV = true := by simpa using f
    unfold cntV
    rw [List.countP_cons, List.countP_cons, eqU_of r f1.1, cntV_eq rs f1.2]
    rfl
theorem mt_lcountV {X : Cx} : MtR X "list.count" (rCntV X.K) := by
  intro pins s σ H x xs v us Q I rx rxs h
  obtain ⟨a, ys, y, rfl, rfl, hs, fy, fys, q⟩ := h
  cases rx
  cases rxs with
  | cons ry rt =>
    rename_i uy ut
    cases rt
    obtain ⟨its, rv, ⟨⟨cls, dd, data, sl⟩, n, ho, hc, hdn, hd⟩, hlen⟩ := I.list hs
    simp only at hc hd
    subst hc hd
    refine call_meets PySem.F.slot_list_count ⟨_, ho, rfl⟩ PySem.F.entry_list_count (PySem.F.args_list_count_2 _ _)
      (SeqAt.list_countAt a its.toArray n dd sl uy (eqU y)) ⟨ho, fun u' hu' => mem_eqAt ry fy rv fys u' (by simpa using hu'), ?_⟩
    have ec : its.toArray.toList.countP (eqU y) = cntV y ys := cntV_eq rv fys
    refine ⟨.int (cntV y ys : Nat), H, I.tok _, ⟨s.toks, ?_⟩, q⟩
    show Value.int ((its.toArray.toList.countP (eqU y) : Nat) : Int) s.toks = Value.int ((cntV y ys : Nat) : Int) s.toks
    rw [ec]
section
variable {K : PySem.W.Frag} {H : Hp} {Q : VK}
theorem k_catN {p q : Addr} {xs ys : List V} (hp : H p = some (.lst xs)) (hq : H q = some (.lst ys)) (hz : xs.length + ys.length ≤ 100000) (h : ∀ l H', H l = none → Same H H' → H' l = some (.lst (xs ++ ys)) → Q (.ref l) H') : rCat (.ref p) (.ref q) H Q := k_cat hp hq hz fun l nl => h l _ nl (same_new nl) upd_same
theorem k_cntV {p : Addr} {ys : List V} {y : V} (hs : SqL K H p ys) (fy : flatV y = true) (fys : ys.all flatV = true) (h : Q (.int (cntV y ys : Nat)) H) : rCntV K (.ref p) [y] H Q := ⟨p, ys, y, rfl, rfl, hs, fy, fys, h⟩
theorem k_indexV {p : Addr} {ys : List V} {y z : V} {j : Nat} (hs : SqL K H p ys) (fy : flatV y = true) (fys : ys.all flatV = true) (hj : ys[j]? = some z) (hz : eqV z y = true) (hn : ∀ (m : Nat) (z' : V), m < j → ys[m]? = some z' → eqV z' y = false) (h : Q (.int (j : Nat)) H) : rIndex K (.ref p) [y] H Q := ⟨p, ys, y, j, z, rfl, rfl, hs, fy, fys, hj, hz, hn, h⟩
theorem k_sortedN {a : Addr} {ns : List Int} (hs : SqL K H a (ns.map V.int)) (h : ∀ (ns' : List Int) (p : Addr) H', ns'.Perm ns → ns'.Pairwise (· ≤ ·) → H p = none → Same H H' → H' p = some (.lst (ns'.map V.int)) → Q (.ref p) H') : rSortedI K [.ref a] H Q := k_sortedI hs fun ns' p h1 h2 h3 => h ns' p _ h1 h2 h3 (same_new h3) upd_same
end
/-! ### facts of older heaps -/
theorem hid_back {S : List Addr} {X Y : Hp} (h : Same X (hid S Y)) : Same X Y := h.trans (hid_same S Y)
theorem at_same {X Y : Hp} {p : Addr} {o : HO} (h : X p = some o) (s : Same X Y) : Y p = some o := s _ _ h
theorem sl_at {K : PySem.W.Frag} {X Y : Hp} {p : Addr} {xs : List V} (h : X p = some (.lst xs)) (s : Same X Y) : SqL K Y p xs := sl (s _ _ h)
theorem st_at {K : PySem.W.Frag} {X Y : Hp} {p : Addr} {xs : List V} (h : X p = some (.tup xs)) (s : Same X Y) : SqT K Y p xs := stp (s _ _ h)
theorem dpI_at {K : PySem.W.Frag} {X Y : Hp} {p : Addr} {ns : List Int} (h : X p = some (.lst (ns.map V.int))) (s : Same X Y) : Dp K Y (.ref p) (dInts ns) := dp_of_ints (sl (s _ _ h))
theorem dpP_at {K : PySem.W.Frag} {X Y : Hp} {p : Addr} {a b : Int} (h : X p = some (.tup [.int a, .int b])) (s : Same X Y) : Dp K Y (.ref p) (dPair (a, b)) := dp_of_pair (stp (s _ _ h))
theorem hid_free {S : List Addr} {H : Hp} (f : ∀ a ∈ S, H a = none) : Same H (hid S H) := fun b o hb => by
  rw [hid_ne fun z => by rw [f b z] at hb; cases hb]; exact hb
theorem hid_free1 {p : Addr} {H : Hp} (f : H p = none) : Same H (hid [p] H) := hid_free (free1 f)
theorem cut_to (xs : List V) (k : Nat) : cutV xs none (some (k : Int)) = xs.take k := by
  unfold cutV
  rw [HT.sIx_none, HT.sIx_nat, List.drop_zero, Nat.sub_zero]
  by_cases h : k ≤ xs.length
  · rw [Nat.min_eq_left h]
  · rw [Nat.min_eq_right (by omega), List.take_of_length_le (by simp), List.take_of_length_le (by omega)]
theorem cut_from (xs : List V) (k : Nat) : cutV xs (some (k : Int)) none = xs.drop k := by
  unfold cutV
  rw [HT.sIx_none, HT.sIx_nat]
  by_cases h : k ≤ xs.length
  · rw [Nat.min_eq_left h]
    exact List.take_of_length_le (by simp)
  · rw [Nat.min_eq_right (by omega), List.drop_of_length_le (Nat.le_refl _), List.drop_of_length_le (by omega), List.take_nil]
theorem dpa_take {K : PySem.W.Frag} {H : Hp} : ∀ {vs : List V} {ds : List PyData} (n : Nat), DpAll K H vs ds → DpAll K H (vs.take n) (ds.take n)
  | _, _, 0, _ => by simp only [List.take_zero]; exact .nil
  | _, _, n + 1, .nil => by simp only [List.take_nil]; exact .nil
  | _, _, n + 1, .cons h r => .cons h (dpa_take n r)
theorem dpa_drop {K : PySem.W.Frag} {H : Hp} : ∀ {vs : List V} {ds : List PyData} (n : Nat), DpAll K H vs ds → DpAll K H (vs.drop n) (ds.drop n)
  | _, _, 0, h => h
  | _, _, n + 1, .nil => by simp only [List.drop_nil]; exact .nil
  | _, _, n + 1, .cons _ r => dpa_drop n r
theorem Le.at {H H' : Hp} {pu p : Addr} {k : Int} {o : HO} (L : Le H pu k) (np : H p = none) (e : H' p = some o) : hid [pu] H' p = some o := by rw [hid_ne (L.fresh np)]; exact e
theorem hat {H : Hp} {pu p : Addr} {o : HO} (np : p ∉ [pu]) (e : H p = some o) : hid [pu] H p = some o := by rw [hid_ne np]; exact e
theorem kLp {xs : List V} {H : Hp} {Q : VK} {pu : Addr} {k : Int} (L : Le H pu k) (hn : xs.length ≤ 100000) (h : ∀ p H', H p = none → Same H H' → hid [pu] H' p = some (.lst xs) → Q (.ref p) H') : newL xs H Q := ⟨sz hn, fun p np => h p _ np (same_new np) (L.at np upd_same)⟩
theorem kTp {xs : List V} {H : Hp} {Q : VK} {pu : Addr} {k : Int} (L : Le H pu k) (hn : xs.length ≤ 100000) (h : ∀ p H', H p = none → Same H H' → hid [pu] H' p = some (.tup xs) → Q (.ref p) H') : newT xs H Q := ⟨sz hn, fun p np => h p _ np (same_new np) (L.at np upd_same)⟩
theorem sh_l2 {n : Nat} {c d : PyData} (h1 : Sh n c) (h2 : Sh n d) : Sh (n + 1) (.list [c, d]) := sh_list fun x hx => by
  rcases List.mem_cons.mp hx with rfl | hx
  · exact h1
  · rcases List.mem_cons.mp hx with rfl | hx
    · exact h2
    · cases hx
section
variable {K : PySem.W.Frag} {σ : L2.St} {H1 : Hp} {Q : VK} {g : TG} {tt : TT} {te : TE} {vs : List Nat}
/-- over a range, new objects may be made -/
theorem lc_growR {QD : Addr → Hp → Prop} {lo : Int} {n : Nat} (hz : n ≤ 50000) (f : Nat → Option V)
    (step : ∀ (i : Nat) H', i < n → Same H1 H' → ∀ (R : V → Hp → Prop) (R0 : Hp → Prop), (∀ y H'', f i = some y → Same H' H'' → R y H'') → (∀ H'', f i = none → Same H' H'' → R0 H'') →
      g (.int (lo + (i : Nat))) (wipe σ vs) H' fun σ2 H2 => wipe σ2 vs = wipe σ vs ∧ tt σ2 H2 fun b H3 => if b = true then te σ2 H3 R else R0 H3)
    (h : ∀ D H', H1 D = none → Same H1 H' → H' D = some (.lst ((List.range n).filterMap f)) → QD D H') :
    ∀ D, H1 D = none → ∃ W : Nat → Nat → Hp → Prop, (∃ m, W 0 m (upd H1 D (.lst []))) ∧ ∀ i m H, W i m H →
      ((Itr lo n).stop i H ∧ QD D H) ∨ ((Itr lo n).go i H ∧ ∃ Nx : Hp → Prop, (∀ H', Nx H' → ∃ m', m' < m ∧ W (i + 1) m' H') ∧ ∀ x H', (Itr lo n).yld i H x H' → g x (wipe σ vs) H' fun σ2 H2 => wipe σ2 vs = wipe σ vs ∧ tt σ2 H2 fun b H3 =>
        if b = true then te σ2 H3 fun y H4 => ∃ acc, H4 D = some (.lst acc) ∧ acc.length < sizeLine ∧ Nx (upd H4 D (.lst (acc ++ [y]))) else Nx H3) := by
  refine fun D nD => lc_range (fun i H => Same H1 H ∧ H D = some (.lst (((List.range n).take i).filterMap f))) ⟨same_new nD, by rw [upd_same]; simp⟩ ?_ ?_
  · rintro i H hi ⟨sm, hD⟩
    have tk := take_filterMap (f := f) (range_take hi)
    refine step i H hi sm _ _ (fun y H'' hy s2 => ⟨_, s2 _ _ hD, szl ?_, same_mut (sm.trans s2) nD, ?_⟩) (fun H'' hn s2 => ⟨sm.trans s2, ?_⟩)
    · have := List.length_filterMap_le f ((List.range n).take i)
      rw [List.length_take, List.length_range] at this
      omega
    · rw [upd_same, tk, hy]; rfl
    · rw [tk, hn, s2 _ _ hD]; simp
  · rintro H ⟨sm, hD⟩
    rw [List.take_of_length_le (by simp)] at hD
    exact h D H nD sm hD
end
/-- behind an if: what follows is shown once -/
theorem ifjoin {c : Bool} {σ : L2.St} {H : Hp} {s1 s2 : TS} {nx bk ct : L2.St → Hp → Prop} {rt : VK} (G : L2.St → Hp → Prop) (main : ∀ σ H, G σ H → nx σ H) (h : (∀ σ H, G σ H → nx σ H) → if c = true then s1 ⟨nx, rt, bk, ct⟩ σ H else s2 ⟨nx, rt, bk, ct⟩ σ H) : if c = true then s1 ⟨nx, rt, bk, ct⟩ σ H else s2 ⟨nx, rt, bk, ct⟩ σ H := h main
theorem k_repN {H : Hp} {Q : VK} {p : Addr} {xs : List V} {k : Int} (hp : H p = some (.lst xs)) (h0 : 0 ≤ k) (h1 : k < 100000) (h2 : xs.length * k.toNat ≤ 100000) (h : ∀ l H', H l = none → Same H H' → H' l = some (.lst (List.replicate k.toNat xs).flatten) → Q (.ref l) H') : rRep (.ref p) (.int k) H Q := k_rep hp h0 h1 h2 fun l nl => h l _ nl (same_new nl) upd_same
theorem ixN_last {n : Nat} (h : 0 < n) : ixN n (-1) = some (n - 1) := by
  unfold ixN
  rw [if_neg (by omega)]
  split
  · simp; omega
  · omega
theorem ifsjoin {t : TT} {σ : L2.St} {H : Hp} {s1 s2 : TS} {nx bk ct : L2.St → Hp → Prop} {rt : VK} (G : L2.St → Hp → Prop) (main : ∀ σ H, G σ H → nx σ H) (h : (∀ σ H, G σ H → nx σ H) → tIfS t s1 s2 ⟨nx, rt, bk, ct⟩ σ H) : tIfS t s1 s2 ⟨nx, rt, bk, ct⟩ σ H := h main
/-- over a list or a tuple -/
def iAny (w1 w2 : TI) : TI := fun σ H R => w1 σ H R ∨ w2 σ H R
theorem pi_any {X : Cx} {tg it : Expr} {w1 w2 : TI} (h1 : PI X tg it w1) (h2 : PI X tg it w2) : PI X tg it (iAny w1 w2) := ⟨fun pins s σ H R I h => by
  rcases h with h | h
  · exact h1.run pins s σ H R I h
  · exact h2.run pins s σ H R I h⟩
theorem k_inT2 {K : PySem.W.Frag} {H : Hp} {Q : VK} {p : Addr} {x a b : Int} (hs : SqT K H p [.int a, .int b]) (h : Q (.bl (decide (x = a ∨ x = b))) H) : rIn K false (.int x) (.ref p) H Q :=
  ⟨p, _, rfl, .inr hs, rfl, flat_ints [a, b], by
    rw [if_neg Bool.false_ne_true, show ([V.int a, .int b] : List V) = List.map V.int [a, b] from rfl, inV_ints]
    have e : decide (x ∈ [a, b]) = decide (x = a ∨ x = b) := by simp
    rw [e]; exact h⟩
theorem Pu.at {H H' : Hp} {pu ce p : Addr} {n : Nat} {t : Int} {o : HO} (L : Pu H pu ce n t) (np : H p = none) (e : H' p = some o) : hid [pu, ce] H' p = some o := by rw [hid_ne (L.fresh np)]; exact e
theorem kLq {xs : List V} {H : Hp} {Q : VK} {pu ce : Addr} {n : Nat} {t : Int} (L : Pu H pu ce n t) (hn : xs.length ≤ 100000) (h : ∀ p H', H p = none → Same H H' → hid [pu, ce] H' p = some (.lst xs) → Q (.ref p) H') : newL xs H Q := ⟨sz hn, fun p np => h p _ np (same_new np) (L.at np upd_same)⟩
theorem kTq {xs : List V} {H : Hp} {Q : VK} {pu ce : Addr} {n : Nat} {t : Int} (L : Pu H pu ce n t) (hn : xs.length ≤ 100000) (h : ∀ p H', H p = none → Same H H' → hid [pu, ce] H' p = some (.tup xs) → Q (.ref p) H') : newT xs H Q := ⟨sz hn, fun p np => h p _ np (same_new np) (L.at np upd_same)⟩
end Cm

namespace Cm
open PySem PySem.Spec PyProof.Rows L2

/-! ### how many unlike ints -/
def unl (ns : List Int) : Nat := (PyProof.Rows.firstMet (fun i => ns.getD i 0) ns.length).length
theorem unl_le (ns : List Int) : unl ns ≤ ns.length := PyProof.Rows.firstMet_length_le _ _
def tLenU (K : PySem.W.Frag) (ta : TE) : TE := fun σ H Q => ta σ H fun x H1 => ∃ (l : Addr) (ns : List Int), x = .ref l ∧ SqL K H1 l (ns.map V.int) ∧ ns.length ≤ 4000 ∧ Q (.int (unl ns : Nat)) H1
theorem pe_lenU {X : Cx} {a : Expr} {ta : TE} {p p2 q pos : Pos} (cm : X.calm = true) (gl : Gl X "len") (ml : X.mg "len" = none) (gs : Gl X "set") (ms : X.mg "set" = none) (pa : PE X a ta)
    (se : starEach [a] X.env = (false, eval a X.env) :: starEach [] X.env := by rfl) : PE X (.Call (.Name "len" p) [.Call (.Name "set" p2) [a] [] q] [] pos) (tLenU X.K ta) := by
  constructor
  intro pins s σ H Q I h
  refine Call_ (ld_blt I gl ml boot_len (PyProof.Rows.callWith_builtin1 (PyProof.Rows.args_cons ?_ rfl) rfl rfl))
  refine Call_ (ld_blt I gs ms boot_set (PyProof.Rows.callWith_type1 (PyProof.Rows.args_cons (thn (pa.run pins s σ H _ I h) fun v s1 ⟨x, H1, J, rx, qx⟩ => PyProof.Rows.args_nil ?_) se) se rfl))
  obtain ⟨l, ns, rfl, hq, hl, qx⟩ := qx
  cases rx
  obtain ⟨its, rv, pl, hz⟩ := J.list hq
  have sz1 : its.toArray.size = ns.length := by rw [List.size_toArray, ← rv.length, List.length_map]
  refine call_set_list (J.ok.hd cm) pl.isList (by simpa using RZ.intsAre_vals rv) (by rw [sz1]; unfold scanBound; omega) fun h' tk hS hk => PyProof.Rows.args_nil ?_
  rw [sz1] at hS
  obtain ⟨o, es, ep, t, ho, hex, hd, _, _, _, hf, hn⟩ := hS
  have J2 : Inv X pins σ H1 { s1 with heap := h', toks := tk } := J.kept fun b o e => hk b o (Heap.lt_size e) e
  have hu := unl_le ns
  exact call_len_set ho hex hd hf (by rw [hn]; unfold unl at hu; omega) ⟨.int (unl ns : Nat), H1, J2.tok _, ⟨_, by rw [hn]; rfl⟩, qx⟩

section
variable {K : PySem.W.Frag} {σ : L2.St} {H1 : Hp} {g : TG} {tt : TT} {te : TE} {vs : List Nat}
/-- over a tuple, new objects may be made -/
theorem lc_growT {QD : Addr → Hp → Prop} {α : Type} {a : Addr} {xs : List V} (hs : SqT K H1 a xs) (ps : List α) (hl : xs.length = ps.length) (hz : ps.length ≤ 50000) (f : α → Option V)
    (step : ∀ (i : Nat) x p H', xs[i]? = some x → ps[i]? = some p → Same H1 H' → ∀ (R : V → Hp → Prop) (R0 : Hp → Prop), (∀ y H'', f p = some y → Same H' H'' → R y H'') → (∀ H'', f p = none → Same H' H'' → R0 H'') →
      g x (wipe σ vs) H' fun σ2 H2 => wipe σ2 vs = wipe σ vs ∧ tt σ2 H2 fun b H3 => if b = true then te σ2 H3 R else R0 H3)
    (h : ∀ D H', H1 D = none → Same H1 H' → H' D = some (.lst (ps.filterMap f)) → QD D H') :
    ∃ a', V.ref a = .ref a' ∧ (∃ xs, SqT K H1 a' xs) ∧ ∀ D, H1 D = none → ∃ W : Nat → Nat → Hp → Prop, (∃ m, W 0 m (upd H1 D (.lst []))) ∧ ∀ i m H, W i m H →
      ((Itt K a').stop i H ∧ QD D H) ∨ ((Itt K a').go i H ∧ ∃ Nx : Hp → Prop, (∀ H', Nx H' → ∃ m', m' < m ∧ W (i + 1) m' H') ∧ ∀ x H', (Itt K a').yld i H x H' → g x (wipe σ vs) H' fun σ2 H2 => wipe σ2 vs = wipe σ vs ∧ tt σ2 H2 fun b H3 =>
        if b = true then te σ2 H3 fun y H4 => ∃ acc, H4 D = some (.lst acc) ∧ acc.length < sizeLine ∧ Nx (upd H4 D (.lst (acc ++ [y]))) else Nx H3) := by
  refine ⟨a, rfl, ⟨xs, hs⟩, fun D nD => lc_tup (xs := xs) (fun i H => Same H1 H ∧ H D = some (.lst ((ps.take i).filterMap f))) ⟨same_new nD, by rw [upd_same]; simp⟩ (fun i H _ e => same_seqT e.1 hs) ?_ ?_⟩
  · rintro i x H hx ⟨sm, hD⟩
    have hi : i < xs.length := (List.getElem?_eq_some_iff.mp hx).1
    obtain ⟨p, hp⟩ : ∃ p, ps[i]? = some p := ⟨ps[i]'(by omega), List.getElem?_eq_getElem (by omega)⟩
    have tk := take_filterMap (f := f) hp
    refine step i x p H hx hp sm _ _ (fun y H'' hy s2 => ⟨_, s2 _ _ hD, szl ?_, same_mut (sm.trans s2) nD, ?_⟩) (fun H'' hn s2 => ⟨sm.trans s2, ?_⟩)
    · have := List.length_filterMap_le f (ps.take i)
      rw [List.length_take] at this
      omega
    · rw [upd_same, tk, hy]; rfl
    · rw [tk, hn, s2 _ _ hD]; simp
  · rintro H ⟨sm, hD⟩
    rw [hl, List.take_length] at hD
    exact h D H nD sm hD
end
theorem k_ixN {K : PySem.W.Frag} {H : Hp} {Q : VK} {p : Addr} {ns : List Int} {i : Nat} {x : Int} (hs : SqL K H p (ns.map V.int)) (hx : ns[i]? = some x) (h : Q (.int x) H) : rIxL K (.ref p) (.int i) H Q := k_ixL hs (atI_nat (by rw [List.getElem?_map, hx]; rfl)) h
theorem fm_map {α : Type} (f : α → V) (l : List α) : l.filterMap (fun x => some (f x)) = l.map f := by
  rw [show (fun x => some (f x)) = some ∘ f from rfl, List.filterMap_eq_map]

/-- what follows a statement is shown once, and lies out of sight meanwhile -/
theorem seqO {s1 s2 : TS} {σ : L2.St} {H : Hp} {nx bk ct : L2.St → Hp → Prop} {rt : VK} (G : L2.St → Hp → Prop) (main : ∀ σ H, G σ H → s2 ⟨nx, rt, bk, ct⟩ σ H) (h : ∀ nx' : L2.St → Hp → Prop, (∀ σ H, G σ H → nx' σ H) → s1 ⟨nx', rt, bk, ct⟩ σ H) : tSeq s1 s2 ⟨nx, rt, bk, ct⟩ σ H := h _ main
/-- the last statement of a block -/
theorem lastO {s1 : TS} {σ : L2.St} {H : Hp} {nx bk ct : L2.St → Hp → Prop} {rt : VK} (G : L2.St → Hp → Prop) (main : ∀ σ H, G σ H → nx σ H) (h : ∀ nx' : L2.St → Hp → Prop, (∀ σ H, G σ H → nx' σ H) → s1 ⟨nx', rt, bk, ct⟩ σ H) : s1 ⟨nx, rt, bk, ct⟩ σ H := h _ main

/-! ### texts -/
def rStrInt : List V → Hp → VK → Prop := fun xs H Q => ∃ i : Int, xs = [.int i] ∧ i.natAbs.log2 < 1920 ∧ Q (.str (toString i)) H
theorem q_strI {X : Cx} : CallR X (.type "str") rStrInt := call_str_int
def xAddS : R2 := fun x y H Q => ∃ i j, x = .str i ∧ y = .str j ∧ i.length + j.length ≤ sizeLine ∧ Q (.str (i ++ j)) H
def rJoin (K : PySem.W.Frag) : V → List V → Hp → VK → Prop := fun x xs H Q => ∃ a p, ∃ ys : List Str, x = .str a ∧ xs = [.ref p] ∧ (SqL K H p (ys.map V.str) ∨ SqT K H p (ys.map V.str)) ∧ (ys.map (·.length)).sum + ys.length * a.length ≤ 16777216 ∧ Q (.str (Txt.join a ys)) H
/-- the signs of a text -/
abbrev sg (s : Str) : List Nat := TL.tl s
def mkS (l : List Nat) : Str := ⟨l.toArray⟩
theorem sg_mkS (l : List Nat) : sg (mkS l) = l := rfl
theorem mkS_sg (s : Str) : mkS (sg s) = s := TL.ext_tl rfl
theorem mkS_inj {l m : List Nat} : mkS l = mkS m ↔ l = m := ⟨fun h => by have := congrArg sg h; rwa [sg_mkS, sg_mkS] at this, fun h => by rw [h]⟩
/-- the signs of a whole number -/
def nu (i : Int) : List Nat := sg (Str.ofString (toString i))
section
variable {K : PySem.W.Frag} {σ : L2.St} {H : Hp} {Q : VK} {to te : TE}
instance {r : V → List V → Hp → VK → Prop} : Stp (tM1 r to te σ H Q) (to σ H fun x H1 => (∃ a, x = .str a) ∧ te σ H1 fun y H2 => r x [y] H2 Q) := ⟨fun h => h⟩
instance {r : V → List V → Hp → VK → Prop} : Stp (tM0 r to σ H Q) (to σ H fun x H1 => (∃ a, x = .str a) ∧ r x [] H1 Q) := ⟨fun h => h⟩
instance {s : Str} {R : Prop} : Stp ((∃ a, V.str s = .str a) ∧ R) R := ⟨fun h => ⟨⟨s, rfl⟩, h⟩⟩
instance : Stp (tLenU K te σ H Q) (te σ H fun x H1 => ∃ (l : Addr) (ns : List Int), x = .ref l ∧ SqL K H1 l (ns.map V.int) ∧ ns.length ≤ 4000 ∧ Q (.int (unl ns : Nat)) H1) := ⟨fun h => h⟩
theorem k_lenU {l : Addr} {ns : List Int} (hs : SqL K H l (ns.map V.int)) (hl : ns.length ≤ 4000) (h : Q (.int (unl ns : Nat)) H) : ∃ (l' : Addr) (ns : List Int), V.ref l = .ref l' ∧ SqL K H l' (ns.map V.int) ∧ ns.length ≤ 4000 ∧ Q (.int (unl ns : Nat)) H := ⟨l, ns, rfl, hs, hl, h⟩
/-- a number of at most thirty figures -/
def Num30 (i : Int) : Prop := 0 ≤ i ∧ i < 10 ^ 30
theorem log_lt {n : Nat} (h : n < 2 ^ 1900) : n.log2 < 1920 := by
  by_cases c : n = 0
  · subst c; decide
  · have := (Nat.log2_lt c (k := 1900)).mpr h
    omega
theorem k_strI {i : Int} (h0 : i.natAbs < 2 ^ 1900) (h : Q (.str (mkS (nu i))) H) : rStrInt [.int i] H Q := ⟨i, rfl, log_lt h0, by unfold nu at h; rw [mkS_sg] at h; exact h⟩
theorem len_sg (s : Str) : s.length = (sg s).length := TL.len_tl s
theorem k_addS {s t : Str} (hz : (sg s).length + (sg t).length ≤ 100000) (h : Q (.str (mkS (sg s ++ sg t))) H) : xAddS (.str s) (.str t) H Q := ⟨s, t, rfl, rfl, by rw [len_sg, len_sg]; exact sz hz, by
  have e : s ++ t = mkS (sg s ++ sg t) := TL.ext_tl (TL.tl_append s t)
  rw [e]; exact h⟩
theorem k_join {s : Str} {p : Addr} {ys : List Str} (hp : SqL K H p (ys.map V.str)) (hz : (ys.map (·.length)).sum + ys.length * s.length ≤ 16777216) (h : Q (.str (mkS (TL.joinL (sg s) (ys.map sg)))) H) : rJoin K (.str s) [.ref p] H Q :=
  ⟨s, p, ys, rfl, rfl, .inl hp, hz, by
    have e : Txt.join s ys = mkS (TL.joinL (sg s) (ys.map sg)) := TL.ext_tl (by rw [TL.join_eq]; exact TL.tl_join s ys)
    rw [e]; exact h⟩
theorem k_isiS {s : Str} (h : Q (.bl true) H) : rIsi K [.str s, .ty "str"] H Q := k_isi (.base (.str s)) (by decide +kernel) h
end
/-! ### more of texts -/
def g_tokS (mg : Str → Option Value) (x : Str) : Tok := match mg x with
  | some (.str _ t) => t
  | _ => default
theorem tok_mkS {mg : Str → Option Value} {x n : Str} {t : Tok} (h : mg x = some (.str n t)) : mg x = some (.str n (g_tokS mg x)) := by
  unfold g_tokS
  rw [h]
theorem q_isiT {X : Cx} : CallR X (.builtin "isinstance") (rIsiT X.K) := call_isiT
def rLenStr : List V → Hp → VK → Prop := fun xs H Q => ∃ z : Str, xs = [.str z] ∧ z.length ≤ sizeLine ∧ Q (.int z.length) H
theorem q_lenS {X : Cx} : CallR X (.builtin "len") rLenStr := call_len_str
def xInS : R2 := fun x y H Q => ∃ i j, x = .str i ∧ y = .str j ∧ Q (.bl (!(Builtin.Str.occurrences j i 0 j.length 1).isEmpty)) H
def xNotInS : R2 := fun x y H Q => ∃ i j, x = .str i ∧ y = .str j ∧ Q (.bl (!(!(Builtin.Str.occurrences j i 0 j.length 1).isEmpty))) H
def rFind : V → List V → Hp → VK → Prop := fun x xs H Q => ∃ a b, x = .str a ∧ xs = [.str b] ∧ Q (.int (Txt.find a b)) H
def rSplit : V → List V → Hp → VK → Prop := fun x xs H Q => ∃ a b, x = .str a ∧ xs = [.str b] ∧ (b.length == 0) = false ∧ a.length + 2 ≤ sizeLine ∧ rNewStrs (Txt.split a b) H Q
section
variable {K : PySem.W.Frag} {σ : L2.St} {H : Hp} {Q : VK} {te : TE}
instance {R : It → Hp → Prop} : Stp (iStr te σ H R) (te σ H fun v H1 => ∃ x, v = .str x ∧ R (Its x) H1) := ⟨fun h => h⟩
theorem k_lenS {l : List Nat} (hl : l.length ≤ 100000) (h : Q (.int (l.length : Nat)) H) : rLenStr [.str (mkS l)] H Q := ⟨_, rfl, by rw [len_sg, sg_mkS]; exact sz hl, by rw [len_sg, sg_mkS]; exact h⟩
theorem k_notInS {l : List Nat} {c : Nat} (h : Q (.bl (!decide (c ∈ l))) H) : xNotInS (.str ⟨#[c]⟩) (.str (mkS l)) H Q := ⟨_, _, rfl, rfl, by
  rw [StrLaws.found_one]; exact h⟩
theorem k_inS {l : List Nat} {c : Nat} (h : Q (.bl (decide (c ∈ l))) H) : xInS (.str ⟨#[c]⟩) (.str (mkS l)) H Q := ⟨_, _, rfl, rfl, by
  rw [StrLaws.found_one]; exact h⟩
theorem k_split {l : List Nat} {s : Str} {ps : List (List Nat)} (hl : l.length ≤ 99000) (hs : s.length ≠ 0) (hp : Txt.split (mkS l) s = ps.map mkS) (h : ∀ p H', H p = none → Same H H' → H' p = some (.lst (ps.map fun q => V.str (mkS q))) → Q (.ref p) H') : rSplit (.str (mkS l)) [.str s] H Q :=
  ⟨_, _, rfl, rfl, by simpa using hs, by rw [len_sg, sg_mkS]; exact sz (by omega), fun p np => h p _ np (same_new np) (by rw [upd_same, hp, List.map_map]; rfl)⟩
theorem k_ixS {l : List Nat} {i : Nat} {c : Nat} (hl : l.length ≤ 100000) (hc : l[i]? = some c) (h : Q (.str ⟨#[c]⟩) H) : rIxS (.str (mkS l)) (.int i) H Q := ⟨_, _, c, rfl, rfl, by rw [len_sg, sg_mkS]; exact sz hl, atI_nat hc, h⟩
end
theorem split_one {s : Nat} {ps : List (List Nat)} (hs : s < 256) (hne : ps ≠ []) (hp : ∀ p ∈ ps, s ∉ p) : Txt.split (mkS (TL.joinL [s] ps)) ⟨#[s]⟩ = ps.map mkS := by
  have e : mkS (TL.joinL [s] ps) = Txt.join ⟨#[s]⟩ (ps.map mkS) := TL.ext_tl (by
    rw [TL.join_eq, TL.tl_join, List.map_map]
    show TL.joinL [s] ps = TL.joinL [s] (ps.map (TL.tl ∘ mkS))
    rw [show (TL.tl ∘ mkS) = id from rfl, List.map_id])
  rw [e]
  refine TL.split_join (s := s) (S := []) rfl (by simp [hs]) (by simpa using hne) fun p h => ?_
  obtain ⟨q, hq, rfl⟩ := List.mem_map.mp h
  exact hp q hq
/-- rows, each with its end, and what stands behind the last end -/
theorem rows_join (rs : List (List Nat)) (e : Nat) (z : List Nat) : (rs.map fun r => r ++ [e]).flatten ++ z = TL.joinL [e] (rs ++ [z]) := by
  induction rs with
  | nil => rfl
  | cons r t ih =>
    have : TL.joinL [e] (r :: (t ++ [z])) = r ++ ([e] ++ TL.joinL [e] (t ++ [z])) := by
      cases t <;> rfl
    rw [List.cons_append, this, ← ih]
    simp
theorem sg_str (s : String) : sg (Str.ofString s) = s.toList.map Char.toNat := TL.tl_ofString s
theorem nu_nat (n : Nat) : nu (n : Int) = TL.numL n := TL.tl_num n
theorem nu_len {i : Int} (h : 0 ≤ i) {k : Nat} (k0 : 0 < k) (h1 : i < 10 ^ k) : (nu i).length ≤ k := by
  obtain ⟨n, rfl⟩ := Int.eq_ofNat_of_zero_le h
  rw [nu_nat]
  unfold TL.numL
  rw [List.length_map]
  refine (Nat.length_toDigits_le_iff (by decide) k0).mpr ?_
  have : ((n : Nat) : Int) < ((10 ^ k : Nat) : Int) := by rw [Int.natCast_pow]; exact h1
  exact Int.ofNat_lt.mp this
/-- signs behind one another -/
theorem joinL_nil (ps : List (List Nat)) : TL.joinL [] ps = ps.flatten := by
  induction ps with
  | nil => rfl
  | cons p r ih => cases r with
    | nil => simp [TL.joinL]
    | cons q r => show p ++ ([] ++ TL.joinL [] (q :: r)) = _; rw [ih]; simp
theorem joinL_cons (S p : List Nat) (r : List (List Nat)) : TL.joinL S (p :: r) = p ++ (r.map fun q => S ++ q).flatten := by
  induction r generalizing p with
  | nil => simp [TL.joinL]
  | cons q r ih => show p ++ (S ++ TL.joinL S (q :: r)) = _; rw [ih]; simp
theorem sum_le {l : List Nat} {b : Nat} (h : ∀ x ∈ l, x ≤ b) : l.sum ≤ l.length * b := by
  induction l with
  | nil => simp
  | cons x r ih =>
    have h1 := ih fun y hy => h y (List.mem_cons_of_mem _ hy)
    have h2 := h x List.mem_cons_self
    rw [List.sum_cons, List.length_cons, Nat.add_mul]
    omega
theorem flat_le {l : List (List Nat)} {b : Nat} (h : ∀ x ∈ l, x.length ≤ b) : l.flatten.length ≤ l.length * b := by
  rw [List.length_flatten]
  have := sum_le (l := l.map List.length) (b := b) fun x hx => by
    obtain ⟨y, hy, rfl⟩ := List.mem_map.mp hx
    exact h y hy
  rw [List.length_map] at this
  exact this
end Cm

namespace Cm
open PySem PySem.Spec PyProof.Rows L2

/-! ### max(d.values()) -/
def tMaxVals (td : TE) : TE := fun σ H Q => td σ H fun x H1 => ∃ (a : Addr) (kvs : List (Key × V)) (is : List Int), x = V.ref a ∧ H1 a = some (.dK kvs) ∧ kvs.map (·.2) = is.map V.int ∧ is ≠ [] ∧ ∀ m, m ∈ is → (∀ j ∈ is, j ≤ m) → Q (.int m) H1
theorem pe_maxVals {X : Cx} {o : Expr} {p pos apos mpos : Pos} {td : TE} (hc : X.calm = true) (hg : Gl X "max") (hm : X.mg "max" = none) (hd : PE X o td) (hbase : attributeBase o "values" X.env (eval o X.env) = eval o X.env := by rfl) (hline : (apos.endLine == mpos.line) = true := by rfl)
    (hse : starEach [Expr.Call (.Attribute o "values" apos) [] [] mpos] X.env = [(false, eval (Expr.Call (.Attribute o "values" apos) [] [] mpos) X.env)] := by rfl) :
    PE X (.Call (.Name "max" p) [.Call (.Attribute o "values" apos) [] [] mpos] [] pos) (tMaxVals td) := by
  constructor
  intro pins s σ H Q I h
  refine wpAny_Call_Name_kw (ld_blt I hg hm (u := .builtin "max") (by first | rfl | decide +kernel) ?_ (by first | decide +kernel | decide) (by first | decide +kernel | decide))
  rw [hse]
  refine PySem.callWith_builtin1 (wpAny_Call_method0_late hbase hline (thn (hd.run pins s σ H _ I h) ?_))
  rintro v s1 ⟨x, H1, I1, r1, a, kvs, is, rfl, ha, hv, hne, q⟩
  obtain rfl : v = Value.ref a := r1
  obtain ⟨_, hsys, vs, rel, dof⟩ := dk_of I1.hok ha
  obtain ⟨ep, dat⟩ := dof.dictAt
  obtain ⟨ob, es, ho, ex, hdat, hko, hpr, hnd⟩ := id dat
  have lv : vs.length = is.length := by
    have e1 : kvs.length = is.length := by simpa using congrArg List.length hv
    rw [← e1]; exact (KV.length rel).symm
  have l0 : 0 < is.length := List.length_pos_iff.mpr hne
  have vals : ∀ (i : Nat) (v : Value), (∃ k, vs[i]? = some (k, v)) → ∃ t, v = Value.int (is.getD i 0) t := by
    rintro i v ⟨k, hk⟩
    obtain ⟨x, h1, h2⟩ := KV.at' rel hk
    have e1 : (is.map V.int)[i]? = some x := by rw [← hv, List.getElem?_map, h1] <;> rfl
    rw [List.getElem?_map] at e1
    obtain ⟨j, hj, rfl⟩ := Option.map_eq_some_iff.mp e1
    obtain ⟨t, e3⟩ := h2
    exact ⟨t, by rw [e3, List.getD_eq_getElem?_getD, hj] <;> rfl⟩
  refine ⟨"dict", "dict.values", F.plainAttrs_dict, F.slot_dict_values, F.type_dict_values, ⟨ob, ho, ex.1⟩, fun b e => by cases e; exact ⟨ob, ho, ex.2.1⟩, Calls.callWith_builtin rfl (PySem.evalArgs_none ?_)⟩
  refine call_meetsIn F.slot_dict_values ⟨ob, ho, ex.1⟩ F.entry_dict_values (F.args_dict_values_1 _) (meets_dict_values (mixKind X.prog X.w) a hsys) ⟨⟨vs, dof⟩, ?_⟩
  have up : ∀ b u, s1.heap.get? b = some u → (s1.heap.push { cls := .type "dict_values", data := .fields #[.ref a] }).get? b = some u := fun b u e => Heap.get?_push_of_some _ e
  have dat1 := dat.keep up
  have alt : a < s1.heap.objs.size := Heap.lt_size ho
  have sz : (s1.heap.push { cls := .type "dict_values", data := .fields #[.ref a] }).objs.size = s1.heap.objs.size + 1 := Heap.size_push _ _
  refine call_max_walk (wpAny_pyIter_values (v := s1.heap.objs.size) (d := a) ⟨_, Heap.get?_push_size _ rfl, rfl, rfl⟩ dat1 ?_)
  refine ⟨_, _, _, _, _, _, _, rfl, Walks.dictValues (knd := mixKind X.prog X.w) (A := X.A.in1) (I.ok.hd hc) (s1.heap.push { cls := .type "dict_values", data := .fields #[.ref a] }).objs.size a (by rw [sz]; exact Nat.ne_of_lt (Nat.lt_succ_of_lt alt)) vs ep,
    ⟨⟨_, Heap.get?_push_size _ rfl, rfl, rfl⟩, dat1.keep fun b u e => Heap.get?_push_of_some _ e⟩, ?_, by omega, CmpOf.ints_gt (fun i => is.getD i 0) vals, ?_⟩
  · intro b hb
    show b < ((s1.heap.push _).push _).objs.size
    rw [Heap.size_push, Heap.size_push]
    rw [sz] at hb
    rcases List.mem_cons.mp hb with e | hb
    · rw [e]; exact Nat.lt_succ_self _
    · rw [show b = a from List.mem_singleton.mp hb]
      exact Nat.lt_succ_of_lt (Nat.lt_succ_of_lt alt)
  · intro v h' tk hP hk
    obtain ⟨t, rfl⟩ := vals _ v hP
    obtain ⟨b1, b2⟩ := argBest_gt (fun i => is.getD i 0) (vs.length - 1)
    refine ⟨.int _, H1, I1.kept (t' := tk) fun b u e => hk b u (fun hmem => ?_) (Heap.get?_push_of_some _ (up b u e)), ⟨t, rfl⟩, q _ ?_ ?_⟩
    · have e1 := List.mem_singleton.mp hmem
      have e2 := Heap.lt_size e
      rw [sz] at e1
      rw [e1] at e2
      exact Nat.lt_irrefl _ (Nat.lt_of_lt_of_le e2 (Nat.le_succ _))
    · have hb : argBest (fun i j => decide (is.getD i 0 > is.getD j 0)) (vs.length - 1) < is.length := by omega
      rw [List.getD_eq_getElem?_getD, List.getElem?_eq_getElem hb]
      exact List.getElem_mem hb
    · intro j hj
      obtain ⟨i, hi, rfl⟩ := List.mem_iff_getElem.mp hj
      have e2 : is.getD i 0 = is[i] := by rw [List.getD_eq_getElem?_getD, List.getElem?_eq_getElem hi] <;> rfl
      rw [← e2]
      exact b2 i (by omega)

/-! ### fields and methods of an instance -/
section
variable {K : PySem.W.Frag} {σ : L2.St} {H : Hp} {Q : VK} {ta tv : TE} {t : TA} {f m : Str} {a C dx : Addr} {fs : List (Str × V)}
/-- x.f is read -/
def gF (K : PySem.W.Frag) (f : Str) (x : V) (H : Hp) (Q : VK) : Prop := ∃ a C dx fs v, x = .ref a ∧ H a = some (.ins C dx fs) ∧ Cls K C ∧ NoAttr K C f ∧ fs.lookup f = some v ∧ Q v H
instance : Stp (tFld K ta f σ H Q) (ta σ H fun x H1 => gF K f x H1 Q) := ⟨id⟩
theorem k_gF {v : V} (e : H a = some (.ins C dx fs)) (c : Cls K C) (n : NoAttr K C f) (l : fs.lookup f = some v) (h : Q v H) : gF K f (.ref a) H Q := ⟨a, C, dx, fs, v, rfl, e, c, n, l, h⟩
/-- x.f = y is written -/
def pF (K : PySem.W.Frag) (f : Str) (x y : V) (H : Hp) (N : Hp → Prop) : Prop := ∃ a C dx fs, x = .ref a ∧ H a = some (.ins C dx fs) ∧ Cls K C ∧ NoAttr K C f ∧ fs.length < 1000 ∧ N (upd H a (.ins C dx (putF f y fs)))
instance {nx bk ct : L2.St → Hp → Prop} {rt : VK} : Stp (sFld K ta tv f ⟨nx, rt, bk, ct⟩ σ H) (tv σ H fun y H1 => ta σ H1 fun x H2 => pF K f x y H2 (nx σ)) := ⟨id⟩
theorem k_pF {y : V} {N : Hp → Prop} (e : H a = some (.ins C dx fs)) (c : Cls K C) (n : NoAttr K C f) (l : fs.length < 1000) (h : N (upd H a (.ins C dx (putF f y fs)))) : pF K f (.ref a) y H N := ⟨a, C, dx, fs, rfl, e, c, n, l, h⟩
/-- x.m is a method's call -/
def mF (C : Addr) (m : Str) (x : V) (H : Hp) (P : Prop) : Prop := ∃ a dx fs, x = .ref a ∧ H a = some (.ins C dx fs) ∧ fs.lookup m = none ∧ P
instance {sp : Sp} {E : XK} : Stp (tMeth C m sp [] E ta t σ H Q) (ta σ H fun x H1 => mF C m x H1 (t σ H1 fun vs H2 => sp (x :: vs) H2 Q E)) := ⟨fun h => by
  unfold tMeth
  simp only [List.append_nil]
  exact h⟩
theorem k_mF {P : Prop} (e : H a = some (.ins C dx fs)) (l : fs.lookup m = none) (h : P) : mF C m (.ref a) H P := ⟨a, dx, fs, rfl, e, l, h⟩
/-- a new instance -/
def newI (C : Addr) (sp : Sp) (E : XK) (vs : List V) (H : Hp) (Q : VK) : Prop := ∀ x dx, H x = none → H dx = none → dx ≠ x → sp (.ref x :: vs) (upd (upd H dx (.own x)) x (.ins C dx [])) (fun v H2 => v = .non ∧ Q (.ref x) H2) E
instance {sp : Sp} {E : XK} : Stp (tMake C sp [] E t σ H Q) (t σ H fun vs H1 => newI C sp E vs H1 Q) := ⟨fun h => by
  unfold tMake
  simp only [List.append_nil]
  exact h⟩
end

/-! ### a comprehension over a range whose items are new things, each by itself -/
section
variable {K : PySem.W.Frag} {σ : L2.St} {H1 : Hp} {Q : VK} {g : TG} {tt : TT} {te : TE} {vs : List Nat}
theorem lc_rowsR {QD : Addr → Hp → Prop} {lo : Int} {n : Nat} (hz : n ≤ 50000) (F : Nat → HO)
    (step : ∀ (i : Nat) H', i < n → Same H1 H' → ∀ (R : V → Hp → Prop) (R0 : Hp → Prop), (∀ p H'', H' p = none → Same H' H'' → H'' p = some (F i) → R (.ref p) H'') →
      g (.int (lo + (i : Nat))) (wipe σ vs) H' fun σ2 H2 => wipe σ2 vs = wipe σ vs ∧ tt σ2 H2 fun b H3 => if b = true then te σ2 H3 R else R0 H3)
    (h : ∀ (D : Addr) (rs : List Addr) (H' : Hp), H1 D = none → Same H1 H' → H' D = some (.lst (rs.map V.ref)) → rs.length = n → rs.Nodup → D ∉ rs → (∀ r ∈ rs, H1 r = none) → (∀ (j : Nat) r, rs[j]? = some r → H' r = some (F j)) → QD D H') :
    ∀ D, H1 D = none → ∃ W : Nat → Nat → Hp → Prop, (∃ m, W 0 m (upd H1 D (.lst []))) ∧ ∀ i m H, W i m H →
      ((Itr lo n).stop i H ∧ QD D H) ∨ ((Itr lo n).go i H ∧ ∃ Nx : Hp → Prop, (∀ H', Nx H' → ∃ m', m' < m ∧ W (i + 1) m' H') ∧ ∀ x H', (Itr lo n).yld i H x H' → g x (wipe σ vs) H' fun σ2 H2 => wipe σ2 vs = wipe σ vs ∧ tt σ2 H2 fun b H3 =>
        if b = true then te σ2 H3 fun y H4 => ∃ acc, H4 D = some (.lst acc) ∧ acc.length < sizeLine ∧ Nx (upd H4 D (.lst (acc ++ [y]))) else Nx H3) := by
  refine fun D nD => lc_range (fun i H => Same H1 H ∧ ∃ rs : List Addr, H D = some (.lst (rs.map V.ref)) ∧ rs.length = i ∧ rs.Nodup ∧ D ∉ rs ∧ (∀ r ∈ rs, H1 r = none) ∧ ∀ (j : Nat) r, rs[j]? = some r → H r = some (F j))
    ⟨same_new nD, [], by rw [upd_same]; rfl, rfl, List.nodup_nil, by simp, (fun r z => by cases z), (fun j r z => by simp at z)⟩ ?_ ?_
  · rintro i H hi ⟨sm, rs, hD, lr, nd, dr, fr, at_⟩
    refine step i H hi sm _ _ (fun p H'' np s2 ep => ⟨_, s2 _ _ hD, szl (by simp; omega), same_mut (sm.trans s2) nD, rs ++ [p], ?_, by simp [lr], ?_, ?_, ?_, ?_⟩)
    · rw [upd_same, List.map_append]; rfl
    · rw [List.nodup_append]
      refine ⟨nd, by simp, fun r hr q hq e => ?_⟩
      rw [List.mem_singleton.mp hq] at e
      subst e
      obtain ⟨j, hj⟩ := List.mem_iff_getElem?.mp hr
      rw [at_ j _ hj] at np
      cases np
    · intro z
      rcases List.mem_append.mp z with z | z
      · exact dr z
      · rw [List.mem_singleton.mp z] at hD
        rw [hD] at np
        cases np
    · intro r hr
      rcases List.mem_append.mp hr with hr | hr
      · exact fr r hr
      · rw [List.mem_singleton.mp hr]; exact sm.free np
    · intro j r hr
      have rD : r ≠ D := fun e => by
        rcases List.mem_append.mp (List.mem_of_getElem? hr) with z | z
        · exact dr (e ▸ z)
        · rw [List.mem_singleton.mp z] at e
          rw [e, hD] at np
          cases np
      rw [upd_ne rD]
      by_cases c : j < rs.length
      · rw [List.getElem?_append_left c] at hr
        exact s2 _ _ (at_ j r hr)
      · have hj : j = i := by
          have := (List.getElem?_eq_some_iff.mp hr).1
          simp at this
          omega
        subst hj
        rw [List.getElem?_append_right (by omega), lr, Nat.sub_self] at hr
        cases hr
        exact ep
  · rintro H ⟨sm, rs, hD, lr, nd, dr, fr, at_⟩
    exact h D rs H nD sm hD lr nd dr fr at_
end
/-! ### dicts with whole numbers for keys -/
section
variable {σ : L2.St} {H : Hp} {Q : VK} {td ty tx tv : TE} {p : Addr} {kvs : List (Key × V)} {t : Int} {v z : V} {nx bk ct : L2.St → Hp → Prop} {rt : VK}
def newD (H : Hp) (Q : VK) : Prop := ∀ p, H p = none → Q (.ref p) (upd H p (.dK []))
instance : Stp (tDNewK σ H Q) (newD H Q) := ⟨id⟩
theorem kD (h : ∀ p H', H p = none → Same H H' → H' p = some (.dK []) → Q (.ref p) H') : newD H Q := fun p np => h p _ np (same_new np) upd_same
def aD (x : V) (H : Hp) (R : Addr → Prop) : Prop := ∃ a, x = .ref a ∧ IsD H a ∧ R a
def gD2 (a : Addr) (y z : V) (H : Hp) (Q : VK) : Prop := ∃ o, DGet H a y o ∧ Q (o.getD z) H
instance : Stp (tDGet2 td ty tx σ H Q) (td σ H fun x H1 => aD x H1 fun a => ty σ H1 fun y H2 => tx σ H2 fun z H3 => gD2 a y z H3 Q) := ⟨id⟩
theorem k_aD {R : Addr → Prop} (e : H p = some (.dK kvs)) (h : R p) : aD (.ref p) H R := ⟨p, rfl, .inl ⟨kvs, .inl e⟩, h⟩
theorem k_gD2 (e : H p = some (.dK kvs)) (h : Q ((valV kvs (.inl t)).getD z) H) : gD2 p (.int t) z H Q := ⟨_, DGet.k (k := .inl t) e, h⟩
def pD (x y v : V) (H : Hp) (N : Hp → Prop) : Prop := ∃ a H4, x = .ref a ∧ DPut H a y v H4 ∧ N H4
instance : Stp (sDPut td ty tv ⟨nx, rt, bk, ct⟩ σ H) (tv σ H fun v H1 => td σ H1 fun x H2 => ty σ H2 fun y H3 => pD x y v H3 (nx σ)) := ⟨id⟩
theorem k_pD {N : Hp → Prop} (e : H p = some (.dK kvs)) (l : kvs.length < 100000) (h : N (upd H p (.dK (putK kvs (.inl t) v)))) : pD (.ref p) (.int t) v H N := ⟨p, _, rfl, DPut.k (k := .inl t) e (szl l), h⟩
def gMx (x : V) (H : Hp) (Q : VK) : Prop := ∃ (a : Addr) (kvs : List (Key × V)) (is : List Int), x = V.ref a ∧ H a = some (.dK kvs) ∧ kvs.map (·.2) = is.map V.int ∧ is ≠ [] ∧ ∀ m, m ∈ is → (∀ j ∈ is, j ≤ m) → Q (.int m) H
instance : Stp (tMaxVals td σ H Q) (td σ H fun x H1 => gMx x H1 Q) := ⟨id⟩
theorem k_gMx {is : List Int} (e : H p = some (.dK kvs)) (hv : kvs.map (·.2) = is.map V.int) (ne : is ≠ []) (h : ∀ m, m ∈ is → (∀ j ∈ is, j ≤ m) → Q (.int m) H) : gMx (.ref p) H Q := ⟨p, kvs, is, rfl, e, hv, ne, h⟩
end
/-- a dict of counts -/
structure Cnt (kvs : List (Key × V)) (c : Int → Nat) (m : Nat) : Prop where
  isI : ∃ is : List Int, kvs.map (·.2) = is.map V.int
  val : ∀ t, valV kvs (.inl t) = if c t = 0 then none else some (.int (c t : Nat))
  len : kvs.length ≤ m
theorem Cnt.nil : Cnt [] (fun _ => 0) 0 := ⟨⟨[], rfl⟩, fun t => by rw [valV_nil]; rfl, Nat.le_refl _⟩
theorem putK_lenN (c : List (Key × V)) (k : Key) (x : V) : (putK c k x).length ≤ c.length + 1 := by
  unfold putK
  split
  · rw [List.length_map]; omega
  · rw [List.length_append]; simp
theorem mapK_ints {k : Key} {x : Int} : ∀ (kvs : List (Key × V)) (is : List Int), kvs.map (·.2) = is.map V.int → ∃ is : List Int, (kvs.map fun kv => if kv.1 = k then (kv.1, V.int x) else kv).map (·.2) = is.map V.int
  | [], _, _ => ⟨[], rfl⟩
  | a :: r, [], h => by simp at h
  | a :: r, j :: js, h => by
    simp only [List.map_cons, List.cons.injEq] at h
    obtain ⟨is', h'⟩ := mapK_ints r js h.2
    by_cases c : a.1 = k
    · exact ⟨x :: is', by rw [List.map_cons, List.map_cons, if_pos c, h']; rfl⟩
    · exact ⟨j :: is', by rw [List.map_cons, List.map_cons, if_neg c, h', h.1]; rfl⟩
theorem putK_ints {kvs : List (Key × V)} {k : Key} {x : Int} (h : ∃ is : List Int, kvs.map (·.2) = is.map V.int) : ∃ is : List Int, (putK kvs k (.int x)).map (·.2) = is.map V.int := by
  obtain ⟨is, h⟩ := h
  unfold putK
  split
  · exact mapK_ints kvs is h
  · exact ⟨is ++ [x], by rw [List.map_append, List.map_append, h]; rfl⟩
theorem Cnt.put {kvs : List (Key × V)} {c : Int → Nat} {m : Nat} (h : Cnt kvs c m) (t : Int) {x : Int} (hx : x = ((c t + 1 : Nat) : Int)) : Cnt (putK kvs (.inl t) (.int x)) (fun s => if s = t then c s + 1 else c s) (m + 1) := by
  obtain ⟨h1, h2, h3⟩ := h
  refine ⟨putK_ints h1, fun s => ?_, Nat.le_trans (putK_lenN _ _ _) (by omega)⟩
  rw [valV_put]
  by_cases e : s = t
  · subst e
    rw [if_pos rfl, if_pos rfl, if_neg (by omega), hx]
  · rw [if_neg (fun z => e (by simpa using z)), if_neg e]
    exact h2 s
theorem Cnt.get {kvs : List (Key × V)} {c : Int → Nat} {m : Nat} (h : Cnt kvs c m) (t : Int) : (valV kvs (.inl t)).getD (.int 0) = .int (c t : Nat) := by
  rw [h.val t]
  split
  · rename_i e
    rw [e]; rfl
  · rfl
theorem Cnt.mem {kvs : List (Key × V)} {c : Int → Nat} {m : Nat} (h : Cnt kvs c m) {is : List Int} (hi : kvs.map (·.2) = is.map V.int) {t : Int} (ht : c t ≠ 0) : ((c t : Nat) : Int) ∈ is := by
  have hv := h.val t
  rw [if_neg ht] at hv
  unfold valV at hv
  obtain ⟨kv, hk, e⟩ := Option.map_eq_some_iff.mp hv
  have hm : V.int ((c t : Nat) : Int) ∈ is.map V.int := by
    rw [← hi, ← e]
    exact List.mem_map_of_mem (List.mem_of_find?_eq_some hk)
  obtain ⟨y, hy, e2⟩ := List.mem_map.mp hm
  cases e2
  exact hy
theorem Cnt.ext {kvs : List (Key × V)} {c c' : Int → Nat} {m m' : Nat} (h : Cnt kvs c m) (e : ∀ t, c t = c' t) (l : m ≤ m') : Cnt kvs c' m' := by
  obtain rfl : c = c' := funext e
  exact ⟨h.isI, h.val, Nat.le_trans h.len l⟩
/-! ### a list told by its places -/
theorem getR {n l : Nat} {f : Nat → Int} (h : l < n) : ((List.range n).map f)[l]? = some (f l) := by
  rw [List.getElem?_map, List.getElem?_range h]; rfl
theorem setR {n l : Nat} {f : Nat → Int} {v : Int} : ((List.range n).map f).set l v = (List.range n).map fun j => if j = l then v else f j := by
  refine List.ext_getElem? fun k => ?_
  rw [List.getElem?_set]
  by_cases c : l = k
  · subst c
    rw [if_pos rfl]
    by_cases d : l < n
    · rw [if_pos (by simpa using d), getR d, if_pos rfl]
    · rw [if_neg (by simpa using d), List.getElem?_eq_none (by simpa using d)]
  · rw [if_neg c]
    by_cases d : k < n
    · rw [getR d, getR d, if_neg (fun e => c e.symm)]
    · rw [List.getElem?_eq_none (by simpa using d), List.getElem?_eq_none (by simpa using d)]
end Cm

namespace Pf
open PySem PySem.Spec PyProof.Rows L2 Cm
local macro_rules | `(tactic| wtm_at "smh") => `(tactic| with_reducible first
  | assumption
  | (refine Same.trans ?_ (by assumption); wtm_at "smx")
  | (refine Same.trans ?_ (hid_mono (by assumption)); wtm_at "smx"))
local macro_rules | `(tactic| wtm_at "smx") => `(tactic| with_reducible first
  | exact Same.refl _
  | assumption
  | exact hid_same _ _
  | (refine Same.trans ?_ (by assumption); wtm_at "smx")
  | (refine Same.trans ?_ (hid_mono (by assumption)); wtm_at "smx")
  | (apply hid_back; wtm_at "smh"))
local macro_rules | `(tactic| wtm_at "sm") => `(tactic| wtm_at "smx")
local macro_rules | `(tactic| wtm_at "at") => `(tactic| with_reducible first
  | assumption
  | exact upd_same
  | (refine at_same (by assumption) ?_; wtm_at "smx"))
local macro_rules | `(tactic| wtm_at "le") => `(tactic| with_reducible first
  | assumption
  | (refine Le.same (by assumption) ?_; wtm_at "smx"))
local macro_rules | `(tactic| wtm_at "dp") => `(tactic| with_reducible first
  | assumption
  | exact .int _
  | exact .str _
  | exact .bl _
  | (refine dp_same ?_ (by assumption); wtm_at "smx")
  | (refine dpa_same ?_ (by assumption); wtm_at "smx")
  | (refine dpI_at (by assumption) ?_; wtm_at "smx")
  | (refine dpP_at (by assumption) ?_; wtm_at "smx"))
local macro_rules | `(tactic| wtm_at "sq") => `(tactic| with_reducible first
  | assumption
  | exact sl (by assumption)
  | exact stp (by assumption)
  | (refine sl_at (by assumption) ?_; wtm_at "smx")
  | (refine st_at (by assumption) ?_; wtm_at "smx")
  | (refine Same.seq ?_ (by assumption); wtm_at "smx")
  | (refine same_seqT ?_ (by assumption); wtm_at "smx")
  | ((show SqL _ (upd _ _ _) _ _); exact sl upd_same)
  | ((show SqT _ (upd _ _ _) _ _); exact stp upd_same))
local macro_rules | `(tactic| wtm_at "cI") => `(tactic| first
  | (refine Or.inl ⟨?_, ?_⟩ <;> omega)
  | (refine Or.inr ⟨?_, ?_⟩ <;> omega)
  | (refine ⟨?_, ?_⟩ <;> omega)
  | decide)
local macro_rules | `(tactic| wtm_at "pf") => `(tactic| first | omega | decide)
local macro_rules | `(tactic| wtm_at "s2") => `(tactic| with_reducible first
  | ((show ite _ _ _); first
    | refine k_itDT (by with_unfolding_all wtm_at "pf") ?_
    | refine k_itDF (by with_unfolding_all wtm_at "pf") ?_
    | refine k_itNT (by with_unfolding_all wtm_at "pf") ?_
    | refine k_itNF (by with_unfolding_all wtm_at "pf") ?_)
  | ((show rLen _ _ _ _); first
    | refine k_len0 (by assumption) ?_
    | refine k_lenI (by wtm_at "sq") ?_
    | refine k_len (by wtm_at "sq") ?_)
  | ((show gTup _ _ _ _ _ _ _); refine k_gtup (by wtm_at "sq") (by with_unfolding_all rfl) ?_)
  | ((show rIxT _ (V.ref _) (V.int _) _ _); refine k_ixT (by wtm_at "sq") (by with_unfolding_all rfl) ?_)
  | ((show wipe _ _ = wipe _ _ ∧ _); refine k_wipe (by with_unfolding_all rfl) ?_)
  | ((show rIn _ _ _ _ _ _); first
    | refine k_inI (by wtm_at "sq") ?_
    | refine k_notInI (by wtm_at "sq") ?_)
  | ((show rIsi _ _ _ _); refine k_isiL (by wtm_at "sq") ?_)
  | ((show xMod _ _ _ _); refine k_mod (by with_unfolding_all first | decide | omega) ?_)
  | ((show xMul _ _ _ _); refine k_mul (by with_unfolding_all wtm_at "cI") ?_)
  | ((show xDiv _ _ _ _); refine k_div (by with_unfolding_all wtm_at "cI") ?_)
  | ((show xPow _ _ _ _); refine k_pow (by with_unfolding_all exact ⟨by decide, by decide, by decide⟩) ?_)
  | ((show rMinT _ _ _ _); refine k_minT (by wtm_at "sq") ?_)
  | ((show rMaxT _ _ _ _); refine k_maxT (by wtm_at "sq") ?_)
  | ((show ∃ j' : Int, [V.int _] = [.int j'] ∧ _); refine k_rj1 (by with_unfolding_all omega) (by with_unfolding_all omega) ?_)
  | ((show ∃ i' j' : Int, [V.int _, V.int _] = [.int i', .int j'] ∧ _); refine k_rj2 (by with_unfolding_all omega) ?_))
local macro_rules | `(tactic| wtm_at "s1") => `(tactic| first
  | refine go ?_
  | wtm_at "s2")
local macro_rules | `(tactic| wtm_at "s") => `(tactic| repeat wtm_at "s1")
def topS (i : Nat) : Stmt := PySem.Challenge.pw_tiehues_k14_shown_by_levels.main.body.getD i (.Pass ⟨0, 0, 0, 0⟩)
abbrev s_is_tree : Stmt := topS 8
theorem sc_is_tree : FnScope ["parents", "k"] ["parents"] (defScope s_is_tree) := ⟨rfl, rfl, rfl, by decide +kernel, rfl, by decide +kernel, by decide +kernel⟩
abbrev s_look_net : Stmt := topS 9
theorem sc_look_net : FnScope ["net", "kind", "size", "right"] ["net"] (defScope s_look_net) := ⟨rfl, rfl, rfl, by decide +kernel, rfl, by decide +kernel, by decide +kernel⟩
abbrev s_must_be_kind : Stmt := topS 10
theorem sc_must_be_kind : FnScope ["net", "kind"] ["net", "kind"] (defScope s_must_be_kind) := ⟨rfl, rfl, rfl, by decide +kernel, rfl, by decide +kernel, by decide +kernel⟩
abbrev s_places_of : Stmt := topS 11
theorem sc_places_of : FnScope ["net"] ["net"] (defScope s_places_of) := ⟨rfl, rfl, rfl, by decide +kernel, rfl, by decide +kernel, by decide +kernel⟩
abbrev s_is_way : Stmt := topS 12
theorem sc_is_way : FnScope ["net", "way", "a", "b"] ["net", "way"] (defScope s_is_way) := ⟨rfl, rfl, rfl, by decide +kernel, rfl, by decide +kernel, by decide +kernel⟩
abbrev s_ties_on : Stmt := topS 13
theorem sc_ties_on : FnScope ["net", "way", "a", "b", "found"] ["net", "way"] (defScope s_ties_on) := ⟨rfl, rfl, rfl, by decide +kernel, rfl, by decide +kernel, by decide +kernel⟩
abbrev s_must_be_ways : Stmt := topS 14
theorem sc_must_be_ways : FnScope ["net", "ways", "k"] ["net", "ways"] (defScope s_must_be_ways) := ⟨rfl, rfl, rfl, by decide +kernel, rfl, by decide +kernel, by decide +kernel⟩
abbrev s_hues_of : Stmt := topS 17
theorem sc_hues_of : FnScope ["level"] ["level"] (defScope s_hues_of) := ⟨rfl, rfl, rfl, by decide +kernel, rfl, by decide +kernel, by decide +kernel⟩
abbrev s_meet : Stmt := topS 18
theorem sc_meet : FnScope ["one", "other"] ["one", "other"] (defScope s_meet) := ⟨rfl, rfl, rfl, by decide +kernel, rfl, by decide +kernel, by decide +kernel⟩
abbrev s_many_on : Stmt := topS 19
theorem sc_many_on : FnScope ["lain", "levels", "tie", "least", "most", "some", "k"] ["lain", "levels", "tie", "least", "most"] (defScope s_many_on) := ⟨rfl, rfl, rfl, by decide +kernel, rfl, by decide +kernel, by decide +kernel⟩
abbrev s_shown_at : Stmt := topS 21
theorem sc_shown_at : FnScope ["lain", "lines", "k", "level", "tie", "hue", "levels", "line", "j"] ["lain", "lines", "k"] (defScope s_shown_at) := ⟨rfl, rfl, rfl, by decide +kernel, rfl, by decide +kernel, by decide +kernel⟩
abbrev s_shows : Stmt := topS 22
theorem sc_shows : FnScope ["net", "ways", "lines", "lain", "k", "way"] ["net", "ways", "lines"] (defScope s_shows) := ⟨rfl, rfl, rfl, by decide +kernel, rfl, by decide +kernel, by decide +kernel⟩
abbrev s_law_mix : Stmt := topS 24
theorem sc_law_mix : FnScope ["_law_number", "_law_k", "_law_mixed"] ["_law_number", "_law_k"] (defScope s_law_mix) := ⟨rfl, rfl, rfl, by decide +kernel, rfl, by decide +kernel, by decide +kernel⟩
abbrev s_law_cell_at : Stmt := topS 25
theorem sc_law_cell_at : FnScope ["_law_script", "_law_k"] ["_law_script", "_law_k"] (defScope s_law_cell_at) := ⟨rfl, rfl, rfl, by decide +kernel, rfl, by decide +kernel, by decide +kernel⟩
abbrev s_law_left : Stmt := topS 26
theorem sc_law_left : FnScope ["_law_script", "_law_k", "_law_cell"] ["_law_script", "_law_k"] (defScope s_law_left) := ⟨rfl, rfl, rfl, by decide +kernel, rfl, by decide +kernel, by decide +kernel⟩
abbrev s_law_draw : Stmt := topS 27
theorem sc_law_draw : FnScope ["_law_left_here", "_law_base", "_law_mixed", "_law_digit"] ["_law_left_here", "_law_base"] (defScope s_law_draw) := ⟨rfl, rfl, rfl, by decide +kernel, rfl, by decide +kernel, by decide +kernel⟩
abbrev s_law_line : Stmt := topS 28
theorem sc_law_line : FnScope ["_law_left_here"] ["_law_left_here"] (defScope s_law_line) := ⟨rfl, rfl, rfl, by decide +kernel, rfl, by decide +kernel, by decide +kernel⟩
abbrev s_law_way : Stmt := topS 29
theorem sc_law_way : FnScope ["_law_left_here", "_law_many", "_law_a", "_law_b"] ["_law_left_here", "_law_many"] (defScope s_law_way) := ⟨rfl, rfl, rfl, by decide +kernel, rfl, by decide +kernel, by decide +kernel⟩
abbrev s_law_short_way : Stmt := topS 30
theorem sc_law_short_way : FnScope ["_law_left_here", "_law_many", "_law_a", "_law_b"] ["_law_left_here", "_law_many"] (defScope s_law_short_way) := ⟨rfl, rfl, rfl, by decide +kernel, rfl, by decide +kernel, by decide +kernel⟩
abbrev s_law_ways : Stmt := topS 31
theorem sc_law_ways : FnScope ["_law_left_here", "_law_many", "_law_ways_here", "_law_k"] ["_law_left_here", "_law_many"] (defScope s_law_ways) := ⟨rfl, rfl, rfl, by decide +kernel, rfl, by decide +kernel, by decide +kernel⟩
abbrev s_law_lain : Stmt := topS 32
theorem sc_law_lain : FnScope ["_law_ways_here", "_law_way_here"] ["_law_ways_here"] (defScope s_law_lain) := ⟨rfl, rfl, rfl, by decide +kernel, rfl, by decide +kernel, by decide +kernel⟩
abbrev s_law_meet : Stmt := topS 33
theorem sc_law_meet : FnScope ["_law_one", "_law_other"] ["_law_one", "_law_other"] (defScope s_law_meet) := ⟨rfl, rfl, rfl, by decide +kernel, rfl, by decide +kernel, by decide +kernel⟩
abbrev s_law_on : Stmt := topS 34
theorem sc_law_on : FnScope ["_law_ties", "_law_tie"] ["_law_ties", "_law_tie"] (defScope s_law_on) := ⟨rfl, rfl, rfl, by decide +kernel, rfl, by decide +kernel, by decide +kernel⟩
abbrev s_law_of_level : Stmt := topS 35
theorem sc_law_of_level : FnScope ["_law_hue", "_law_level"] ["_law_hue", "_law_level"] (defScope s_law_of_level) := ⟨rfl, rfl, rfl, by decide +kernel, rfl, by decide +kernel, by decide +kernel⟩
abbrev s_law_right_at : Stmt := topS 36
theorem sc_law_right_at : FnScope ["_law_lain_here", "_law_lines", "_law_k", "_law_level", "_law_tie", "_law_hue", "_law_levels", "_law_line_here", "_law_j"] ["_law_lain_here", "_law_lines", "_law_k"] (defScope s_law_right_at) := ⟨rfl, rfl, rfl, by decide +kernel, rfl, by decide +kernel, by decide +kernel⟩
abbrev s_law_due : Stmt := topS 37
theorem sc_law_due : FnScope ["_law_lain_here", "_law_lines", "_law_k"] ["_law_lain_here", "_law_lines"] (defScope s_law_due) := ⟨rfl, rfl, rfl, by decide +kernel, rfl, by decide +kernel, by decide +kernel⟩
abbrev s_law_bent : Stmt := topS 38
theorem sc_law_bent : FnScope ["_law_left_here", "_law_lines", "_law_many", "_law_at", "_law_level", "_law_tie", "_law_hue", "_law_other", "_law_choice", "_law_some", "_law_far"] ["_law_left_here", "_law_lines", "_law_many"] (defScope s_law_bent) := ⟨rfl, rfl, rfl, by decide +kernel, rfl, by decide +kernel, by decide +kernel⟩
abbrev s_law : Stmt := topS 39
theorem sc_law : FnScope ["_law_script", "_law_cell", "_law_left_here", "_law_net", "_law_ways_here", "_law_lain_here", "_law_giver", "_law_hues", "_law_levels", "_law_lines", "_law_some", "_law_handed", "_law_told", "_law_way_here", "_law_k"] ["_law_script"] (defScope s_law) := ⟨rfl, rfl, rfl, by decide +kernel, rfl, by decide +kernel, by decide +kernel⟩
abbrev s_Giver_init : Stmt := inClass (topS 20) 0
theorem sc_Giver_init : FnScope ["self", "net", "tie"] ["self", "net"] (defScope s_Giver_init) := ⟨rfl, rfl, rfl, by decide +kernel, rfl, by decide +kernel, by decide +kernel⟩
abbrev s_Giver_level_for : Stmt := inClass (topS 20) 1
theorem sc_Giver_level_for : FnScope ["self", "ties", "i", "tie"] ["self", "ties"] (defScope s_Giver_level_for) := ⟨rfl, rfl, rfl, by decide +kernel, rfl, by decide +kernel, by decide +kernel⟩
abbrev s_Giver_own_for : Stmt := inClass (topS 20) 2
theorem sc_Giver_own_for : FnScope ["self", "ties", "i", "tie"] ["self", "ties", "i"] (defScope s_Giver_own_for) := ⟨rfl, rfl, rfl, by decide +kernel, rfl, by decide +kernel, by decide +kernel⟩
abbrev s_Giver_counted_in : Stmt := inClass (topS 20) 3
theorem sc_Giver_counted_in : FnScope ["self", "ties", "i", "tie", "j"] ["self", "ties", "i"] (defScope s_Giver_counted_in) := ⟨rfl, rfl, rfl, by decide +kernel, rfl, by decide +kernel, by decide +kernel⟩
abbrev s_Giver_put : Stmt := inClass (topS 20) 4
theorem sc_Giver_put : FnScope ["self", "way", "ties", "i", "taken", "hue", "k", "one"] ["self", "way"] (defScope s_Giver_put) := ⟨rfl, rfl, rfl, by decide +kernel, rfl, by decide +kernel, by decide +kernel⟩
abbrev s_Giver_levels : Stmt := inClass (topS 20) 7
theorem sc_Giver_levels : FnScope ["self"] ["self"] (defScope s_Giver_levels) := ⟨rfl, rfl, rfl, by decide +kernel, rfl, by decide +kernel, by decide +kernel⟩
abbrev s_Giver_own_tie : Stmt := inClass (topS 20) 8
theorem sc_Giver_own_tie : FnScope ["self", "number"] ["self", "number"] (defScope s_Giver_own_tie) := ⟨rfl, rfl, rfl, by decide +kernel, rfl, by decide +kernel, by decide +kernel⟩
structure Ad where
  c_Giver : Addr
  a_is_tree : Addr
  d_is_tree : FuncData
  a_look_net : Addr
  d_look_net : FuncData
  a_must_be_kind : Addr
  d_must_be_kind : FuncData
  a_places_of : Addr
  d_places_of : FuncData
  a_is_way : Addr
  d_is_way : FuncData
  a_ties_on : Addr
  d_ties_on : FuncData
  a_must_be_ways : Addr
  d_must_be_ways : FuncData
  a_hues_of : Addr
  d_hues_of : FuncData
  a_meet : Addr
  d_meet : FuncData
  a_many_on : Addr
  d_many_on : FuncData
  a_shown_at : Addr
  d_shown_at : FuncData
  a_shows : Addr
  d_shows : FuncData
  a_law_mix : Addr
  d_law_mix : FuncData
  a_law_cell_at : Addr
  d_law_cell_at : FuncData
  a_law_left : Addr
  d_law_left : FuncData
  a_law_draw : Addr
  d_law_draw : FuncData
  a_law_line : Addr
  d_law_line : FuncData
  a_law_way : Addr
  d_law_way : FuncData
  a_law_short_way : Addr
  d_law_short_way : FuncData
  a_law_ways : Addr
  d_law_ways : FuncData
  a_law_lain : Addr
  d_law_lain : FuncData
  a_law_meet : Addr
  d_law_meet : FuncData
  a_law_on : Addr
  d_law_on : FuncData
  a_law_of_level : Addr
  d_law_of_level : FuncData
  a_law_right_at : Addr
  d_law_right_at : FuncData
  a_law_due : Addr
  d_law_due : FuncData
  a_law_bent : Addr
  d_law_bent : FuncData
  a_law : Addr
  d_law : FuncData
  a_Giver_init : Addr
  d_Giver_init : FuncData
  a_Giver_level_for : Addr
  d_Giver_level_for : FuncData
  a_Giver_own_for : Addr
  d_Giver_own_for : FuncData
  a_Giver_counted_in : Addr
  d_Giver_counted_in : FuncData
  a_Giver_put : Addr
  d_Giver_put : FuncData
  a_Giver_levels : Addr
  d_Giver_levels : FuncData
  a_Giver_own_tie : Addr
  d_Giver_own_tie : FuncData
structure Txt (K : PySem.W.Frag) (mg : Str → Option Value) (A : Ad) : Prop where
  g_is_tree : mg "is_tree" = some (.ref A.a_is_tree)
  F_is_tree : Fun K "is_tree" "is_tree" s_is_tree A.a_is_tree A.d_is_tree
  b_is_tree : Binds K A.d_is_tree ["parents"] []
  g_look_net : mg "look_net" = some (.ref A.a_look_net)
  F_look_net : Fun K "look_net" "look_net" s_look_net A.a_look_net A.d_look_net
  b_look_net : Binds K A.d_look_net ["net"] []
  g_must_be_kind : mg "must_be_kind" = some (.ref A.a_must_be_kind)
  F_must_be_kind : Fun K "must_be_kind" "must_be_kind" s_must_be_kind A.a_must_be_kind A.d_must_be_kind
  b_must_be_kind : Binds K A.d_must_be_kind ["net", "kind"] []
  g_places_of : mg "places_of" = some (.ref A.a_places_of)
  F_places_of : Fun K "places_of" "places_of" s_places_of A.a_places_of A.d_places_of
  b_places_of : Binds K A.d_places_of ["net"] []
  g_is_way : mg "is_way" = some (.ref A.a_is_way)
  F_is_way : Fun K "is_way" "is_way" s_is_way A.a_is_way A.d_is_way
  b_is_way : Binds K A.d_is_way ["net", "way"] []
  g_ties_on : mg "ties_on" = some (.ref A.a_ties_on)
  F_ties_on : Fun K "ties_on" "ties_on" s_ties_on A.a_ties_on A.d_ties_on
  b_ties_on : Binds K A.d_ties_on ["net", "way"] []
  g_must_be_ways : mg "must_be_ways" = some (.ref A.a_must_be_ways)
  F_must_be_ways : Fun K "must_be_ways" "must_be_ways" s_must_be_ways A.a_must_be_ways A.d_must_be_ways
  b_must_be_ways : Binds K A.d_must_be_ways ["net", "ways"] []
  g_hues_of : mg "hues_of" = some (.ref A.a_hues_of)
  F_hues_of : Fun K "hues_of" "hues_of" s_hues_of A.a_hues_of A.d_hues_of
  b_hues_of : Binds K A.d_hues_of ["level"] []
  g_meet : mg "meet" = some (.ref A.a_meet)
  F_meet : Fun K "meet" "meet" s_meet A.a_meet A.d_meet
  b_meet : Binds K A.d_meet ["one", "other"] []
  g_many_on : mg "many_on" = some (.ref A.a_many_on)
  F_many_on : Fun K "many_on" "many_on" s_many_on A.a_many_on A.d_many_on
  b_many_on : Binds K A.d_many_on ["lain", "levels", "tie", "least", "most"] []
  g_shown_at : mg "shown_at" = some (.ref A.a_shown_at)
  F_shown_at : Fun K "shown_at" "shown_at" s_shown_at A.a_shown_at A.d_shown_at
  b_shown_at : Binds K A.d_shown_at ["lain", "lines", "k"] []
  g_shows : mg "shows" = some (.ref A.a_shows)
  F_shows : Fun K "shows" "shows" s_shows A.a_shows A.d_shows
  b_shows : Binds K A.d_shows ["net", "ways", "lines"] []
  g_law_mix : mg "_law_mix" = some (.ref A.a_law_mix)
  F_law_mix : Fun K "_law_mix" "_law_mix" s_law_mix A.a_law_mix A.d_law_mix
  b_law_mix : Binds K A.d_law_mix ["_law_number", "_law_k"] []
  g_law_cell_at : mg "_law_cell_at" = some (.ref A.a_law_cell_at)
  F_law_cell_at : Fun K "_law_cell_at" "_law_cell_at" s_law_cell_at A.a_law_cell_at A.d_law_cell_at
  b_law_cell_at : Binds K A.d_law_cell_at ["_law_script", "_law_k"] []
  g_law_left : mg "_law_left" = some (.ref A.a_law_left)
  F_law_left : Fun K "_law_left" "_law_left" s_law_left A.a_law_left A.d_law_left
  b_law_left : Binds K A.d_law_left ["_law_script", "_law_k"] []
  g_law_draw : mg "_law_draw" = some (.ref A.a_law_draw)
  F_law_draw : Fun K "_law_draw" "_law_draw" s_law_draw A.a_law_draw A.d_law_draw
  b_law_draw : Binds K A.d_law_draw ["_law_left_here", "_law_base"] []
  g_law_line : mg "_law_line" = some (.ref A.a_law_line)
  F_law_line : Fun K "_law_line" "_law_line" s_law_line A.a_law_line A.d_law_line
  b_law_line : Binds K A.d_law_line ["_law_left_here"] []
  g_law_way : mg "_law_way" = some (.ref A.a_law_way)
  F_law_way : Fun K "_law_way" "_law_way" s_law_way A.a_law_way A.d_law_way
  b_law_way : Binds K A.d_law_way ["_law_left_here", "_law_many"] []
  g_law_short_way : mg "_law_short_way" = some (.ref A.a_law_short_way)
  F_law_short_way : Fun K "_law_short_way" "_law_short_way" s_law_short_way A.a_law_short_way A.d_law_short_way
  b_law_short_way : Binds K A.d_law_short_way ["_law_left_here", "_law_many"] []
  g_law_ways : mg "_law_ways" = some (.ref A.a_law_ways)
  F_law_ways : Fun K "_law_ways" "_law_ways" s_law_ways A.a_law_ways A.d_law_ways
  b_law_ways : Binds K A.d_law_ways ["_law_left_here", "_law_many"] []
  g_law_lain : mg "_law_lain" = some (.ref A.a_law_lain)
  F_law_lain : Fun K "_law_lain" "_law_lain" s_law_lain A.a_law_lain A.d_law_lain
  b_law_lain : Binds K A.d_law_lain ["_law_ways_here"] []
  g_law_meet : mg "_law_meet" = some (.ref A.a_law_meet)
  F_law_meet : Fun K "_law_meet" "_law_meet" s_law_meet A.a_law_meet A.d_law_meet
  b_law_meet : Binds K A.d_law_meet ["_law_one", "_law_other"] []
  g_law_on : mg "_law_on" = some (.ref A.a_law_on)
  F_law_on : Fun K "_law_on" "_law_on" s_law_on A.a_law_on A.d_law_on
  b_law_on : Binds K A.d_law_on ["_law_ties", "_law_tie"] []
  g_law_of_level : mg "_law_of_level" = some (.ref A.a_law_of_level)
  F_law_of_level : Fun K "_law_of_level" "_law_of_level" s_law_of_level A.a_law_of_level A.d_law_of_level
  b_law_of_level : Binds K A.d_law_of_level ["_law_hue", "_law_level"] []
  g_law_right_at : mg "_law_right_at" = some (.ref A.a_law_right_at)
  F_law_right_at : Fun K "_law_right_at" "_law_right_at" s_law_right_at A.a_law_right_at A.d_law_right_at
  b_law_right_at : Binds K A.d_law_right_at ["_law_lain_here", "_law_lines", "_law_k"] []
  g_law_due : mg "_law_due" = some (.ref A.a_law_due)
  F_law_due : Fun K "_law_due" "_law_due" s_law_due A.a_law_due A.d_law_due
  b_law_due : Binds K A.d_law_due ["_law_lain_here", "_law_lines"] []
  g_law_bent : mg "_law_bent" = some (.ref A.a_law_bent)
  F_law_bent : Fun K "_law_bent" "_law_bent" s_law_bent A.a_law_bent A.d_law_bent
  b_law_bent : Binds K A.d_law_bent ["_law_left_here", "_law_lines", "_law_many"] []
  g_law : mg "law" = some (.ref A.a_law)
  F_law : Fun K "law" "law" s_law A.a_law A.d_law
  b_law : Binds K A.d_law ["_law_script"] []
  k_Giver : mg "Giver" = some (.ref A.c_Giver)
  M_Giver : Mk K A.c_Giver A.a_Giver_init
  F_Giver_init : Fun K "__init__" "Giver.__init__" s_Giver_init A.a_Giver_init A.d_Giver_init
  K_Giver : Cls K A.c_Giver
  N_Giver_net : NoAttr K A.c_Giver "net"
  N_Giver_come : NoAttr K A.c_Giver "come"
  N_Giver_lain : NoAttr K A.c_Giver "lain"
  N_Giver_given : NoAttr K A.c_Giver "given"
  N_Giver_level : NoAttr K A.c_Giver "level"
  N_Giver_own : NoAttr K A.c_Giver "own"
  N_Giver_upto : NoAttr K A.c_Giver "upto"
  b_Giver_init : Binds K A.d_Giver_init ["self", "net"] []
  Me_Giver_level_for : Meth K A.c_Giver "level_for" A.a_Giver_level_for
  F_Giver_level_for : Fun K "level_for" "Giver.level_for" s_Giver_level_for A.a_Giver_level_for A.d_Giver_level_for
  b_Giver_level_for : Binds K A.d_Giver_level_for ["self", "ties"] []
  Me_Giver_own_for : Meth K A.c_Giver "own_for" A.a_Giver_own_for
  F_Giver_own_for : Fun K "own_for" "Giver.own_for" s_Giver_own_for A.a_Giver_own_for A.d_Giver_own_for
  b_Giver_own_for : Binds K A.d_Giver_own_for ["self", "ties", "i"] []
  Me_Giver_counted_in : Meth K A.c_Giver "counted_in" A.a_Giver_counted_in
  F_Giver_counted_in : Fun K "counted_in" "Giver.counted_in" s_Giver_counted_in A.a_Giver_counted_in A.d_Giver_counted_in
  b_Giver_counted_in : Binds K A.d_Giver_counted_in ["self", "ties", "i"] []
  Me_Giver_put : Meth K A.c_Giver "put" A.a_Giver_put
  F_Giver_put : Fun K "put" "Giver.put" s_Giver_put A.a_Giver_put A.d_Giver_put
  b_Giver_put : Binds K A.d_Giver_put ["self", "way"] []
  Me_Giver_levels : Meth K A.c_Giver "levels" A.a_Giver_levels
  F_Giver_levels : Fun K "levels" "Giver.levels" s_Giver_levels A.a_Giver_levels A.d_Giver_levels
  b_Giver_levels : Binds K A.d_Giver_levels ["self"] []
  Me_Giver_own_tie : Meth K A.c_Giver "own_tie" A.a_Giver_own_tie
  F_Giver_own_tie : Fun K "own_tie" "Giver.own_tie" s_Giver_own_tie A.a_Giver_own_tie A.d_Giver_own_tie
  b_Giver_own_tie : Binds K A.d_Giver_own_tie ["self", "number"] []
  c_MOST_PLACES : mg "MOST_PLACES" = some (.int 60 (g_tok mg "MOST_PLACES"))
  c_MOST_WAYS : mg "MOST_WAYS" = some (.int 40 (g_tok mg "MOST_WAYS"))
  z_bool : mg "bool" = none
  z_int : mg "int" = none
  z_isinstance : mg "isinstance" = none
  z_len : mg "len" = none
  z_list : mg "list" = none
  z_max : mg "max" = none
  z_min : mg "min" = none
  z_range : mg "range" = none
  z_sorted : mg "sorted" = none
/-! ### nets -/
inductive Net where
  | line (n : Int)
  | ring (n : Int)
  | tree (ps : List Int)
def Net.kind : Net → Str
  | .line _ => Str.ofString "line"
  | .ring _ => Str.ofString "ring"
  | .tree _ => Str.ofString "tree"
def Net.size : Net → PyData
  | .line n => .int n
  | .ring n => .int n
  | .tree ps => dInts ps
abbrev Net.d (N : Net) : PyData := .tuple [.str N.kind, N.size]
def TreeOk (ps : List Int) : Prop := 1 ≤ ps.length ∧ ps.length < 60 ∧ ∀ k : Nat, k < ps.length → 0 ≤ ps.getD k 0 ∧ ps.getD k 0 ≤ k
def Net.ok : Net → Prop
  | .line n => 2 ≤ n ∧ n ≤ 60
  | .ring n => 3 ≤ n ∧ n ≤ 60
  | .tree ps => TreeOk ps
def Net.places : Net → Int
  | .line n => n
  | .ring n => n
  | .tree ps => ps.length + 1
theorem net_str {s t : Str} (h : decide (V.str s = V.str t) = true) : s = t := V.str.inj (of_decide_eq_true h)
/-- a net's tuple -/
theorem dp_net {K : PySem.W.Frag} {H : Hp} {v : V} {N : Net} (h : Dp K H v N.d) : ∃ a y, v = .ref a ∧ SqT K H a [.str N.kind, y] ∧ Dp K H y N.size := by
  obtain ⟨a, x, y, rfl, hs, hx, hy⟩ := dp_tup2 h
  obtain rfl := dp_str hx
  exact ⟨a, y, rfl, hs, hy⟩
theorem k_eqS {s t : Str} {H : Hp} {Q : VK} (h : Q (.bl (decide (s = t))) H) : rEq (.str s) (.str t) H Q := ⟨rfl, by
  have e : decide (V.str s = V.str t) = decide (s = t) := by
    by_cases c : s = t
    · rw [decide_eq_true c, decide_eq_true (by rw [c])]
    · rw [decide_eq_false c, decide_eq_false (fun z => c (V.str.inj z))]
  rw [e]; exact h⟩
theorem k_neS {s t : Str} {H : Hp} {Q : VK} (h : Q (.bl (!decide (s = t))) H) : rNe (.str s) (.str t) H Q := ⟨rfl, by
  have e : decide (V.str s = V.str t) = decide (s = t) := by
    by_cases c : s = t
    · rw [decide_eq_true c, decide_eq_true (by rw [c])]
    · rw [decide_eq_false c, decide_eq_false (fun z => c (V.str.inj z))]
  rw [e]; exact h⟩
theorem s_lt : decide (Str.ofString "line" = Str.ofString "tree") = false := by decide +kernel
theorem s_rt : decide (Str.ofString "ring" = Str.ofString "tree") = false := by decide +kernel
theorem s_lr : decide (Str.ofString "line" = Str.ofString "ring") = false := by decide +kernel
theorem s_rl : decide (Str.ofString "ring" = Str.ofString "line") = false := by decide +kernel
theorem s_tl : decide (Str.ofString "tree" = Str.ofString "line") = false := by decide +kernel
theorem s_tr : decide (Str.ofString "tree" = Str.ofString "ring") = false := by decide +kernel
theorem s_same (s : Str) : decide (s = s) = true := decide_eq_true rfl
/-- how far t lies up from a on a ring of n -/
def up (n a t : Int) : Int := if a ≤ t then t - a else t - a + n
/-- x lies in the part of the tree that hangs by k -/
def below (ps : List Int) (k : Nat) : Nat → Bool
  | 0 => decide (k = 0)
  | x + 1 => decide (k = x + 1) || (decide (k < x + 1) && if h : (ps.getD x 0).toNat < x + 1 then below ps k (ps.getD x 0).toNat else false)
termination_by x => x
decreasing_by exact h
def OnTie : Net → Int → Int → Int → Prop
  | .line _, a, b, t => min a b ≤ t ∧ t < max a b
  | .ring n, a, b, t => 0 ≤ t ∧ t < n ∧ up n a t < up n a b
  | .tree ps, a, b, t => 0 ≤ t ∧ t < ps.length ∧ below ps (t.toNat + 1) a.toNat ≠ below ps (t.toNat + 1) b.toNat
def Net.far : Net → Int → Int → List Int → Prop
  | .line _, a, b, ns => (ns.length : Int) = max a b - min a b
  | .ring n, a, b, ns => (ns.length : Int) = up n a b
  | .tree _, _, _, ns => ns.length < 120
def isWay (N : Net) (a b : Int) : Prop := a ≠ b ∧ 0 ≤ a ∧ 0 ≤ b ∧ a < N.places ∧ b < N.places
instance (N : Net) (a b : Int) : Decidable (isWay N a b) := by unfold isWay; infer_instance
structure TiesOf (N : Net) (a b : Int) (ns : List Int) : Prop where
  srt : ns.Pairwise (· < ·)
  mem : ∀ t, t ∈ ns ↔ OnTie N a b t
  far : N.far a b ns

variable {P : Program} {w : World} {K : PySem.W.Frag} {mg : Str → Option Value} {base : Heap} {A : Ad}
def pr_is_tree (K : PySem.W.Frag) (v0 : V) (H : Hp) (Q : VK) (_ : XK) : Prop := ∃ ps, Dp K H v0 (dInts ps) ∧ ps.length ≤ 10000 ∧ ∀ b, (b = true ↔ TreeOk ps) → Q (.bl b) H
def t_is_tree (K : PySem.W.Frag) : TS :=
  (tSeq (tIfS (tOr (tTest (tOp xLt (tCB (rLen K) (tCons (tVar 0) tNil)) (tC (.int 1)))) (tTest (tOp xGe (tCB (rLen K) (tCons (tVar 0) tNil)) (tC (.int 60))))) (tRet (tC (.bl false))) tNext)
    (tSeq (tFor (iRng1 (tCons (tCB (rLen K) (tCons (tVar 0) tNil)) tNil)) (gName 1)
      (tIfS (tOr (tTest (tOp xLt (tOp (rIxL K) (tVar 0) (tVar 1)) (tC (.int 0)))) (tTest (tOp xGt (tOp (rIxL K) (tVar 0) (tVar 1)) (tVar 1)))) (tRet (tC (.bl false))) tNext))
    (tRet (tC (.bl true)))))
theorem pure_is_tree {v0 : V} {H : Hp} {Q : VK} {E : XK} (h : pr_is_tree K v0 H Q E) : t_is_tree K ⟨fun _ H' => Q .non H', Q, fun _ _ => False, fun _ _ => False⟩ [some v0, none] H := by
  obtain ⟨ps, hp, hz, q⟩ := h
  obtain ⟨a, rfl, ha⟩ := dp_ints hp
  unfold t_is_tree
  wtm_at "s"
  refine k_it (fun c1 => ?_) (fun c1 => ?_)
  · wtm_at "s"
    exact q _ (ff_iff fun z => absurd z.1 (by omega))
  wtm_at "s"
  refine k_it (fun c2 => ?_) (fun c2 => ?_)
  · wtm_at "s"
    exact q _ (ff_iff fun z => absurd z.2.1 (by omega))
  wtm_at "s"
  refine forR (fun i σ' H' => H' = H ∧ (∃ k, σ' = [some (.ref a), k]) ∧ ∀ k : Nat, k < i → 0 ≤ ps.getD k 0 ∧ ps.getD k 0 ≤ k) ⟨rfl, ⟨none, rfl⟩, fun k hk => absurd hk (by omega)⟩ ?_ ?_
  · rintro i σ' H' hi ⟨rfl, ⟨k, rfl⟩, hk⟩
    wtm_at "s"
    refine k_ixI ha (by omega) (by omega) ?_
    wtm_at "s"
    rw [show (0 + (i : Int)).toNat = i by omega]
    refine k_it (fun c3 => ?_) (fun c3 => ?_)
    · wtm_at "s"
      exact q _ (ff_iff fun z => absurd (z.2.2 i (by omega)).1 (by omega))
    wtm_at "s"
    refine k_ixI ha (by omega) (by omega) ?_
    wtm_at "s"
    rw [show (0 + (i : Int)).toNat = i by omega]
    refine k_it (fun c4 => ?_) (fun c4 => ?_)
    · wtm_at "s"
      exact q _ (ff_iff fun z => absurd (z.2.2 i (by omega)).2 (by omega))
    wtm_at "s"
    refine ⟨rfl, ⟨_, rfl⟩, fun k hk' => ?_⟩
    by_cases e : k = i
    · subst e; omega
    · exact hk k (by omega)
  · rintro σ' H' ⟨rfl, ⟨k, rfl⟩, hk⟩
    wtm_at "s"
    exact q _ (tt_iff ⟨by omega, by omega, fun k h => hk k (by omega)⟩)
abbrev sp_is_tree (K : PySem.W.Frag) : Sp := fun vs H Q E => ∃ v0, vs = [v0] ∧ pr_is_tree K v0 H Q E
theorem ok_is_tree (T : Txt K mg A) : FnOk P w K mg base CX0 1 A.a_is_tree A.d_is_tree ["parents"] (sp_is_tree K) := by
  refine T.F_is_tree.ok sc_is_tree (fun vs H Q E h => by obtain ⟨v0, rfl, _⟩ := h; rfl) (fun cdv A0 outer s H vs Q E hr h => ?_)
  obtain ⟨v0, rfl, h⟩ := h
  exact ⟨t_is_tree K, (pss_cons (ps_if (PW.pt (pw_or (pt_cmpR op_lt (pe_callB q_len (by rfl) T.z_len (by decide +kernel) (pa_cons (pv 0) pa_nil)) pe_int (nomark _)) (pw_or1 (pt_cmpR op_ge (pe_callB q_len (by rfl) T.z_len (by decide +kernel) (pa_cons (pv 0) pa_nil)) (pe_glob (v := .int 60) (by rfl) T.c_MOST_PLACES ⟨_, rfl⟩) (nomark _))))) (pss_one (ps_ret pe_bl)) pss_nil)
      (pss_cons (ps_for PassesOwn.never rfl (pi_range1 (by rfl) T.z_range (pa_cons (pe_callB q_len (by rfl) T.z_len (by decide +kernel) (pa_cons (pv 0) pa_nil)) pa_nil)) (pg_name (i := 1) sc_is_tree.nd rfl (Or.inl rfl))
      (pss_one (ps_if (PW.pt (pw_or (pt_cmpR op_lt (pe_ix ix_list (pv 0) (pv 1) (fun _ _ => rfl)) pe_int (nomark _)) (pw_or1 (pt_cmpR op_gt (pe_ix ix_list (pv 0) (pv 1) (fun _ _ => rfl)) (pv 1) (nomark _))))) (pss_one (ps_ret pe_bl)) pss_nil)))
      (pss_one (ps_ret pe_bl)))), pure_is_tree h⟩
def pr_look_net (K : PySem.W.Frag) (v0 : V) (H : Hp) (Q : VK) (_ : XK) : Prop := ∃ N : Net, Dp K H v0 N.d ∧ N.ok ∧ Q .non H
def t_look_net (K : PySem.W.Frag) : TS :=
  (tSeq (tAsg (tVar 0) (gTup K 2 (gCons (gName 1) (gCons (gName 2) gNil))))
    (tSeq (tIfS (tTest (tOp rEq (tVar 1) (tC (.str (Str.ofString "tree"))))) (tAsg (tAndV (tCB (rIsi K) (tCons (tVar 2) (tCons (tC (.ty "list")) tNil))) (tCall (sp_is_tree K) [] E0 (tCons (tVar 2) tNil))) (gName 3)) (tIfS (tOr (tTest (tOp rEq (tVar 1) (tC (.str (Str.ofString "line"))))) (tTest (tOp rEq (tVar 1) (tC (.str (Str.ofString "ring")))))) (tAsg (tAndV (tNotV (tCB (rIsi K) (tCons (tVar 2) (tCons (tC (.ty "list")) tNil)))) (tAndV (tOp xGe (tVar 2) (tOp xAdd (tC (.int 2)) (tCB rIntOf (tCons (tOp rEq (tVar 1) (tC (.str (Str.ofString "ring")))) tNil)))) (tOp xLe (tVar 2) (tC (.int 60))))) (gName 3)) (tAsg (tC (.bl false)) (gName 3))))
    (tIfS (tNot (tB (tVar 3))) tNever tNext)))
theorem pure_look_net {v0 : V} {H : Hp} {Q : VK} {E : XK} (h : pr_look_net K v0 H Q E) : t_look_net K ⟨fun _ H' => Q .non H', Q, fun _ _ => False, fun _ _ => False⟩ [some v0, none, none, none] H := by
  obtain ⟨N, hd, ok, q⟩ := h
  obtain ⟨a, y, rfl, hs, hy⟩ := dp_net hd
  unfold t_look_net
  cases N with
  | line n =>
    obtain rfl := dp_int hy
    obtain ⟨o1, o2⟩ := ok
    wtm_at "s"
    refine k_eqS ?_
    rw [show Net.kind (.line n) = Str.ofString "line" from rfl, s_lt]
    wtm_at "s"
    refine k_eqS ?_
    rw [s_same]
    wtm_at "s"
    refine k_eqS ?_
    rw [s_lr]
    wtm_at "s"
    have e1 : decide (2 + (if false = true then 1 else 0) ≤ n) = true := by simp; omega
    rw [e1]
    wtm_at "s"
    exact q
  | ring n =>
    obtain rfl := dp_int hy
    obtain ⟨o1, o2⟩ := ok
    wtm_at "s"
    refine k_eqS ?_
    rw [show Net.kind (.ring n) = Str.ofString "ring" from rfl, s_rt]
    wtm_at "s"
    refine k_eqS ?_
    rw [s_rl]
    wtm_at "s"
    refine k_eqS ?_
    rw [s_same]
    wtm_at "s"
    refine k_eqS ?_
    rw [s_same]
    wtm_at "s"
    exact q
  | tree ps =>
    obtain ⟨b, rfl, hb⟩ := dp_ints hy
    wtm_at "s"
    refine k_eqS ?_
    rw [show Net.kind (.tree ps) = Str.ofString "tree" from rfl, s_same]
    wtm_at "s"
    refine ⟨_, rfl, ps, hy, by have := ok.2.1; omega, fun r hr => ?_⟩
    obtain rfl := hr.mpr ok
    wtm_at "s"
    exact q
abbrev sp_look_net (K : PySem.W.Frag) : Sp := fun vs H Q E => ∃ v0, vs = [v0] ∧ pr_look_net K v0 H Q E
theorem ok_look_net (T : Txt K mg A) : FnOk P w K mg base CX0 2 A.a_look_net A.d_look_net ["net"] (sp_look_net K) := by
  refine T.F_look_net.ok sc_look_net (fun vs H Q E h => by obtain ⟨v0, rfl, _⟩ := h; rfl) (fun cdv A0 outer s H vs Q E hr h => ?_)
  obtain ⟨v0, rfl, h⟩ := h
  exact ⟨t_look_net K, (pss_cons (ps_asg (pv 0) (pg_tup (by rfl) (pgs_cons (pg_name (i := 1) sc_look_net.nd rfl (Or.inl rfl)) (pgs_cons (pg_name (i := 2) sc_look_net.nd rfl (Or.inl rfl)) pgs_nil))))
      (pss_cons (ps_if (pt_cmpR op_eq (pv 1) pe_str (nomark _)) (pss_one (ps_set (i := 3) sc_look_net.nd rfl (Or.inl rfl) (pe_and (pe_callB q_isi (by rfl) T.z_isinstance (by decide +kernel) (pa_cons (pv 2) (pa_cons (pe_bltn (v := .ty "list") (by rfl) T.z_list (by decide +kernel) rfl) pa_nil))) (pe_one (pe_call (ok_is_tree T) (hr.mono (by decide)) (by rfl) T.g_is_tree T.F_is_tree.kp T.b_is_tree .nil pass0 (pa_cons (pv 2) pa_nil)))))) (pss_one (ps_if (PW.pt (pw_or (pt_cmpR op_eq (pv 1) pe_str (nomark _)) (pw_or1 (pt_cmpR op_eq (pv 1) pe_str (nomark _))))) (pss_one (ps_set (i := 3) sc_look_net.nd rfl (Or.inl rfl) (pe_and (pe_not (pe_callB q_isi (by rfl) T.z_isinstance (by decide +kernel) (pa_cons (pv 2) (pa_cons (pe_bltn (v := .ty "list") (by rfl) T.z_list (by decide +kernel) rfl) pa_nil)))) (pe_and (pe_cmpR op_ge (pv 2) (pe_op op_add pe_int (pe_callTy q_intB (by rfl) T.z_int (by decide +kernel) (pa_cons (pe_cmpR op_eq (pv 1) pe_str (nomark _)) pa_nil))) (nomark _)) (pe_one (pe_cmpR op_le (pv 2) (pe_glob (v := .int 60) (by rfl) T.c_MOST_PLACES ⟨_, rfl⟩) (nomark _))))))) (pss_one (ps_set (i := 3) sc_look_net.nd rfl (Or.inl rfl) pe_bl)))))
      (pss_one (ps_if (pt_not (pt_val (pv 3))) (pss_one ps_never) pss_nil)))), pure_look_net h⟩
def pr_must_be_kind (K : PySem.W.Frag) (v0 v1 : V) (H : Hp) (Q : VK) (_ : XK) : Prop := ∃ N : Net, Dp K H v0 N.d ∧ N.ok ∧ v1 = .str N.kind ∧ Q .non H
def t_must_be_kind (K : PySem.W.Frag) : TS :=
  (tSeq (tDrop (tCall (sp_look_net K) [] E0 (tCons (tVar 0) tNil)))
    (tIfS (tTest (tOp rNe (tOp (rIxT K) (tVar 0) (tC (.int 0))) (tVar 1))) tNever tNext))
theorem pure_must_be_kind {v0 v1 : V} {H : Hp} {Q : VK} {E : XK} (h : pr_must_be_kind K v0 v1 H Q E) : t_must_be_kind K ⟨fun _ H' => Q .non H', Q, fun _ _ => False, fun _ _ => False⟩ [some v0, some v1] H := by
  obtain ⟨N, hd, ok, rfl, q⟩ := h
  obtain ⟨a, y, rfl, hs, hy⟩ := dp_net hd
  unfold t_must_be_kind
  wtm_at "s"
  refine ⟨_, rfl, N, hd, ok, ?_⟩
  wtm_at "s"
  refine k_neS ?_
  rw [s_same]
  wtm_at "s"
  exact q
abbrev sp_must_be_kind (K : PySem.W.Frag) : Sp := fun vs H Q E => ∃ v0 v1, vs = [v0, v1] ∧ pr_must_be_kind K v0 v1 H Q E
theorem ok_must_be_kind (T : Txt K mg A) : FnOk P w K mg base CX0 3 A.a_must_be_kind A.d_must_be_kind ["net", "kind"] (sp_must_be_kind K) := by
  refine T.F_must_be_kind.ok sc_must_be_kind (fun vs H Q E h => by obtain ⟨v0, v1, rfl, _⟩ := h; rfl) (fun cdv A0 outer s H vs Q E hr h => ?_)
  obtain ⟨v0, v1, rfl, h⟩ := h
  exact ⟨t_must_be_kind K, (pss_cons (ps_expr (pe_call (ok_look_net T) (hr.mono (by decide)) (by rfl) T.g_look_net T.F_look_net.kp T.b_look_net .nil pass0 (pa_cons (pv 0) pa_nil)))
      (pss_one (ps_if (pt_cmpR op_ne (pe_ix ix_tup (pv 0) pe_int (fun _ _ => rfl)) (pv 1) (nomark _)) (pss_one ps_never) pss_nil))), pure_must_be_kind h⟩


def pr_places_of (K : PySem.W.Frag) (v0 : V) (H : Hp) (Q : VK) (_ : XK) : Prop := ∃ N : Net, Dp K H v0 N.d ∧ Q (.int N.places) H
def t_places_of (K : PySem.W.Frag) : TS :=
  (tSeq (tIfS (tTest (tOp rEq (tOp (rIxT K) (tVar 0) (tC (.int 0))) (tC (.str (Str.ofString "tree"))))) (tRet (tOp xAdd (tCB (rLen K) (tCons (tOp (rIxT K) (tVar 0) (tC (.int 1))) tNil)) (tC (.int 1)))) tNext)
    (tRet (tOp (rIxT K) (tVar 0) (tC (.int 1)))))
theorem pure_places_of {v0 : V} {H : Hp} {Q : VK} {E : XK} (h : pr_places_of K v0 H Q E) : t_places_of K ⟨fun _ H' => Q .non H', Q, fun _ _ => False, fun _ _ => False⟩ [some v0] H := by
  obtain ⟨N, hd, q⟩ := h
  obtain ⟨a, y, rfl, hs, hy⟩ := dp_net hd
  unfold t_places_of
  wtm_at "s"
  refine k_eqS ?_
  cases N with
  | line n =>
    obtain rfl := dp_int hy
    rw [show Net.kind (.line n) = Str.ofString "line" from rfl, s_lt]
    wtm_at "s"
    exact q
  | ring n =>
    obtain rfl := dp_int hy
    rw [show Net.kind (.ring n) = Str.ofString "ring" from rfl, s_rt]
    wtm_at "s"
    exact q
  | tree ps =>
    obtain ⟨b, rfl, hb⟩ := dp_ints hy
    rw [show Net.kind (.tree ps) = Str.ofString "tree" from rfl, s_same]
    wtm_at "s"
    exact q
abbrev sp_places_of (K : PySem.W.Frag) : Sp := fun vs H Q E => ∃ v0, vs = [v0] ∧ pr_places_of K v0 H Q E
theorem ok_places_of (T : Txt K mg A) : FnOk P w K mg base CX0 1 A.a_places_of A.d_places_of ["net"] (sp_places_of K) := by
  refine T.F_places_of.ok sc_places_of (fun vs H Q E h => by obtain ⟨v0, rfl, _⟩ := h; rfl) (fun cdv A0 outer s H vs Q E hr h => ?_)
  obtain ⟨v0, rfl, h⟩ := h
  exact ⟨t_places_of K, (pss_cons (ps_if (pt_cmpR op_eq (pe_ix ix_tup (pv 0) pe_int (fun _ _ => rfl)) pe_str (nomark _)) (pss_one (ps_ret (pe_op op_add (pe_callB q_len (by rfl) T.z_len (by decide +kernel) (pa_cons (pe_ix ix_tup (pv 0) pe_int (fun _ _ => rfl)) pa_nil)) pe_int))) pss_nil)
      (pss_one (ps_ret (pe_ix ix_tup (pv 0) pe_int (fun _ _ => rfl))))), pure_places_of h⟩
def pr_is_way (K : PySem.W.Frag) (v0 v1 : V) (H : Hp) (Q : VK) (_ : XK) : Prop := ∃ (N : Net) (a b : Int), Dp K H v0 N.d ∧ Dp K H v1 (dPair (a, b)) ∧ Q (.bl (decide (isWay N a b))) H
def t_is_way (K : PySem.W.Frag) : TS :=
  (tSeq (tAsg (tVar 1) (gTup K 2 (gCons (gName 2) (gCons (gName 3) gNil))))
    (tRet (tAndV (tOp rNe (tVar 2) (tVar 3)) (tAndV (tOp xGe (tCB rMin2 (tCons (tVar 2) (tCons (tVar 3) tNil))) (tC (.int 0))) (tOp xLt (tCB rMax2 (tCons (tVar 2) (tCons (tVar 3) tNil))) (tCall (sp_places_of K) [] E0 (tCons (tVar 0) tNil)))))))
theorem pure_is_way {v0 v1 : V} {H : Hp} {Q : VK} {E : XK} (h : pr_is_way K v0 v1 H Q E) : t_is_way K ⟨fun _ H' => Q .non H', Q, fun _ _ => False, fun _ _ => False⟩ [some v0, some v1, none, none] H := by
  obtain ⟨N, a, b, hd, hw, q⟩ := h
  obtain ⟨p, rfl, hp⟩ := dp_pair hw
  have kk : ∀ r : Bool, (r = true ↔ isWay N a b) → Q (.bl r) H := fun r hr => by
    have : r = decide (isWay N a b) := by
      by_cases c : isWay N a b
      · rw [decide_eq_true c]; exact hr.mpr c
      · rw [decide_eq_false c]
        cases r with
        | false => rfl
        | true => exact absurd (hr.mp rfl) c
    rw [this]; exact q
  unfold t_is_way
  wtm_at "s"
  refine k_itn (fun c1 => ?_) (fun c1 => ?_)
  · wtm_at "s"
    refine k_it (fun c2 => ?_) (fun c2 => ?_)
    · wtm_at "s"
      refine ⟨_, rfl, N, hd, ?_⟩
      wtm_at "s"
      refine kk _ ?_
      simp only [decide_eq_true_eq, isWay]
      constructor
      · intro z
        split at z <;> split at c2 <;> omega
      · intro z
        split <;> omega
    · wtm_at "s"
      refine kk _ (ff_iff fun z => c2 ?_)
      obtain ⟨z1, z2, z3, z4, z5⟩ := z
      split <;> omega
  · wtm_at "s"
    exact kk _ (ff_iff fun z => z.1 c1)
abbrev sp_is_way (K : PySem.W.Frag) : Sp := fun vs H Q E => ∃ v0 v1, vs = [v0, v1] ∧ pr_is_way K v0 v1 H Q E
theorem ok_is_way (T : Txt K mg A) : FnOk P w K mg base CX0 2 A.a_is_way A.d_is_way ["net", "way"] (sp_is_way K) := by
  refine T.F_is_way.ok sc_is_way (fun vs H Q E h => by obtain ⟨v0, v1, rfl, _⟩ := h; rfl) (fun cdv A0 outer s H vs Q E hr h => ?_)
  obtain ⟨v0, v1, rfl, h⟩ := h
  exact ⟨t_is_way K, (pss_cons (ps_asg (pv 1) (pg_tup (by rfl) (pgs_cons (pg_name (i := 2) sc_is_way.nd rfl (Or.inl rfl)) (pgs_cons (pg_name (i := 3) sc_is_way.nd rfl (Or.inl rfl)) pgs_nil))))
      (pss_one (ps_ret (pe_and (pe_cmpR op_ne (pv 2) (pv 3) (nomark _)) (pe_and (pe_cmpR op_ge (pe_callB (q_min2 (by rfl)) (by rfl) T.z_min (by decide +kernel) (pa_cons (pv 2) (pa_cons (pv 3) pa_nil))) pe_int (nomark _)) (pe_one (pe_cmpR op_lt (pe_callB (q_max2 (by rfl)) (by rfl) T.z_max (by decide +kernel) (pa_cons (pv 2) (pa_cons (pv 3) pa_nil))) (pe_call (ok_places_of T) (hr.mono (by decide)) (by rfl) T.g_places_of T.F_places_of.kp T.b_places_of .nil pass0 (pa_cons (pv 0) pa_nil)) (nomark _)))))))), pure_is_way h⟩
def pr_must_be_ways (K : PySem.W.Frag) (v0 v1 : V) (H : Hp) (Q : VK) (_ : XK) : Prop := ∃ (N : Net) (ws : List (Int × Int)), Dp K H v0 N.d ∧ Dp K H v1 (dPairs ws) ∧ ws.length ≤ 10000 ∧ (∀ w ∈ ws, isWay N w.1 w.2) ∧ Q .non H
def t_must_be_ways (K : PySem.W.Frag) : TS :=
  (tFor (iRng1 (tCons (tCB (rLen K) (tCons (tVar 1) tNil)) tNil)) (gName 2)
      (tIfS (tNot (tB (tCall (sp_is_way K) [] E0 (tCons (tVar 0) (tCons (tOp (rIxL K) (tVar 1) (tVar 2)) tNil))))) tNever tNext))
theorem pure_must_be_ways {v0 v1 : V} {H : Hp} {Q : VK} {E : XK} (h : pr_must_be_ways K v0 v1 H Q E) : t_must_be_ways K ⟨fun _ H' => Q .non H', Q, fun _ _ => False, fun _ _ => False⟩ [some v0, some v1, none] H := by
  obtain ⟨N, ws, hd, hw, hz, hok, q⟩ := h
  obtain ⟨b, xs, rfl, hb, hxs⟩ := dp_list hw
  have hl := dpa_len hxs
  rw [List.length_map] at hl
  unfold t_must_be_ways
  wtm_at "s"
  rw [hl]
  refine forR (fun i σ' H' => H' = H ∧ ∃ k, σ' = [some v0, some (.ref b), k]) ⟨rfl, none, rfl⟩ ?_ (fun σ' H' ⟨e, _⟩ => e ▸ q)
  rintro i σ' H' hi ⟨rfl, k, rfl⟩
  have hi' : i < xs.length := by omega
  obtain ⟨x, hx⟩ : ∃ x, xs[i]? = some x := ⟨xs[i], List.getElem?_eq_getElem hi'⟩
  obtain ⟨d, hd1, hd2⟩ := dpa_get hxs hx
  rw [List.getElem?_map] at hd1
  obtain ⟨w, hw1, rfl⟩ := Option.map_eq_some_iff.mp hd1
  have wok := hok w (List.mem_of_getElem? hw1)
  wtm_at "s"
  refine k_ixL hb (by rw [Int.zero_add]; exact atI_nat hx) ?_
  wtm_at "s"
  refine ⟨_, _, rfl, N, w.1, w.2, hd, hd2, ?_⟩
  rw [decide_eq_true wok]
  wtm_at "s"
  exact ⟨rfl, _, rfl⟩
abbrev sp_must_be_ways (K : PySem.W.Frag) : Sp := fun vs H Q E => ∃ v0 v1, vs = [v0, v1] ∧ pr_must_be_ways K v0 v1 H Q E
theorem ok_must_be_ways (T : Txt K mg A) : FnOk P w K mg base CX0 3 A.a_must_be_ways A.d_must_be_ways ["net", "ways"] (sp_must_be_ways K) := by
  refine T.F_must_be_ways.ok sc_must_be_ways (fun vs H Q E h => by obtain ⟨v0, v1, rfl, _⟩ := h; rfl) (fun cdv A0 outer s H vs Q E hr h => ?_)
  obtain ⟨v0, v1, rfl, h⟩ := h
  exact ⟨t_must_be_ways K, (pss_one (ps_for PassesOwn.never rfl (pi_range1 (by rfl) T.z_range (pa_cons (pe_callB q_len (by rfl) T.z_len (by decide +kernel) (pa_cons (pv 1) pa_nil)) pa_nil)) (pg_name (i := 2) sc_must_be_ways.nd rfl (Or.inl rfl))
      (pss_one (ps_if (pt_not (pt_val (pe_call (ok_is_way T) (hr.mono (by decide)) (by rfl) T.g_is_way T.F_is_way.kp T.b_is_way .nil pass0 (pa_cons (pv 0) (pa_cons (pe_ix ix_list (pv 1) (pv 2) (fun _ _ => rfl)) pa_nil))))) (pss_one ps_never) pss_nil)))), pure_must_be_ways h⟩


theorem below_lt {ps : List Int} {k : Nat} : ∀ x, x < k → below ps k x = false
  | 0, h => by unfold below; exact decide_eq_false (by omega)
  | x + 1, h => by
    unfold below
    rw [decide_eq_false (show ¬ k = x + 1 by omega), decide_eq_false (show ¬ k < x + 1 by omega)]; rfl
theorem below_self {ps : List Int} (k : Nat) : below ps k k = true := by
  cases k with
  | zero => unfold below; rfl
  | succ x => unfold below; rw [decide_eq_true rfl]; rfl
theorem below_step {ps : List Int} (h : TreeOk ps) {k x : Nat} (hx : x < ps.length) (hk : k ≠ x + 1) : below ps k (x + 1) = below ps k (ps.getD x 0).toNat := by
  have hp := h.2.2 x hx
  have hlt : (ps.getD x 0).toNat < x + 1 := by omega
  rw [below, decide_eq_false hk, Bool.false_or, dif_pos hlt]
  by_cases c : k < x + 1
  · rw [decide_eq_true c, Bool.true_and]
  · rw [decide_eq_false c, Bool.false_and, below_lt _ (by omega)]
theorem ring_step {n a b t : Int} (a0 : 0 ≤ a) (a1 : a < n) (b0 : 0 ≤ b) (b1 : b < n) (ne : a ≠ b) (t0 : 0 ≤ t) (t1 : t < n) :
    (up n a t < up n a b ↔ t = a ∨ up n ((a + 1) % n) t < up n ((a + 1) % n) b) ∧ (t = a → ¬ up n ((a + 1) % n) t < up n ((a + 1) % n) b) := by
  have e : (a + 1) % n = if a + 1 = n then 0 else a + 1 := by
    split
    · rename_i h; rw [h]; exact Int.emod_self
    · exact Int.emod_eq_of_lt (by omega) (by omega)
  rw [e]
  unfold up
  constructor
  · constructor
    · intro h; repeat' split at h
      all_goals repeat' split
      all_goals omega
    · intro h; repeat' split at h
      all_goals repeat' split
      all_goals omega
  · intro h; subst h
    repeat' split
    all_goals omega
theorem ring_far {n a b : Int} (a0 : 0 ≤ a) (a1 : a < n) (b0 : 0 ≤ b) (b1 : b < n) (ne : a ≠ b) : up n ((a + 1) % n) b = up n a b - 1 ∧ 0 ≤ (a + 1) % n ∧ (a + 1) % n < n ∧ 0 < up n a b ∧ up n a b < n := by
  have e : (a + 1) % n = if a + 1 = n then 0 else a + 1 := by
    split
    · rename_i h; rw [h]; exact Int.emod_self
    · exact Int.emod_eq_of_lt (by omega) (by omega)
  rw [e]
  unfold up
  refine ⟨?_, ?_, ?_, ?_, ?_⟩ <;> repeat' split
  all_goals omega
theorem up_self (n a : Int) : up n a a = 0 := by unfold up; split <;> omega
theorem up_nonneg {n a b : Int} (a0 : 0 ≤ a) (a1 : a < n) (b0 : 0 ≤ b) (b1 : b < n) : 0 ≤ up n a b := by unfold up; split <;> omega
/-- the greater end climbs -/
theorem tree_step {ps : List Int} (h : TreeOk ps) {x y t : Int} (x0 : 0 ≤ x) (x1 : x < ps.length + 1) (y0 : 0 ≤ y) (yx : y < x) (t0 : 0 ≤ t) :
    (below ps (t.toNat + 1) x.toNat ≠ below ps (t.toNat + 1) y.toNat ↔ t = x - 1 ∨ below ps (t.toNat + 1) (ps.getD (x - 1).toNat 0).toNat ≠ below ps (t.toNat + 1) y.toNat) ∧
    (t = x - 1 → ¬ below ps (t.toNat + 1) (ps.getD (x - 1).toNat 0).toNat ≠ below ps (t.toNat + 1) y.toNat) := by
  have hp := h.2.2 (x - 1).toNat (by omega)
  by_cases c : t = x - 1
  · subst c
    have e1 : (x - 1).toNat + 1 = x.toNat := by omega
    rw [e1, below_self, below_lt y.toNat (by omega), below_lt (ps.getD (x - 1).toNat 0).toNat (by omega)]
    simp
  · have e1 : x.toNat = (x - 1).toNat + 1 := by omega
    have := below_step h (k := t.toNat + 1) (x := (x - 1).toNat) (by omega) (by omega)
    rw [e1, this]
    simp [c]
theorem srt_of {fs ns : List Int} (nd : fs.Nodup) (pm : ns.Perm fs) (srt : ns.Pairwise (· ≤ ·)) : ns.Pairwise (· < ·) := by
  have := srt.and (pm.nodup_iff.mpr nd)
  exact this.imp fun ⟨a, b⟩ => by omega
def pr_ties_on (K : PySem.W.Frag) (v0 v1 : V) (H : Hp) (Q : VK) (_ : XK) : Prop := ∃ (N : Net) (a b : Int), Dp K H v0 N.d ∧ Dp K H v1 (dPair (a, b)) ∧ N.ok ∧ isWay N a b ∧ ∀ p ns H', H p = none → Same H H' → H' p = some (.lst (List.map V.int ns)) → TiesOf N a b ns → Q (.ref p) H'
def t_ties_on (K : PySem.W.Frag) : TS :=
  (tSeq (tAsg (tVar 1) (gTup K 2 (gCons (gName 2) (gCons (gName 3) gNil))))
    (tSeq (tAsg (tLst tNil) (gName 4))
    (tSeq (tIfS (tTest (tOp rEq (tOp (rIxT K) (tVar 0) (tC (.int 0))) (tC (.str (Str.ofString "line"))))) (tRet (tLstRg (tRg2 (tCB rMin2 (tCons (tVar 2) (tCons (tVar 3) tNil))) (tCB rMax2 (tCons (tVar 2) (tCons (tVar 3) tNil)))))) tNext)
    (tSeq (tWhile (tTest (tOp rNe (tVar 2) (tVar 3)))
      (tIfS (tTest (tOp rEq (tOp (rIxT K) (tVar 0) (tC (.int 0))) (tC (.str (Str.ofString "ring"))))) (tSeq (tDrop (tBM K "list" rAppend (tVar 4) (tCons (tVar 2) tNil)))
    (tAsg (tOp xMod (tOp xAdd (tVar 2) (tC (.int 1))) (tOp (rIxT K) (tVar 0) (tC (.int 1)))) (gName 2))) (tIfS (tTest (tOp xGt (tVar 2) (tVar 3))) (tSeq (tDrop (tBM K "list" rAppend (tVar 4) (tCons (tOp xSub (tVar 2) (tC (.int 1))) tNil)))
    (tAsg (tOp (rIxL K) (tOp (rIxT K) (tVar 0) (tC (.int 1))) (tOp xSub (tVar 2) (tC (.int 1)))) (gName 2))) (tSeq (tDrop (tBM K "list" rAppend (tVar 4) (tCons (tOp xSub (tVar 3) (tC (.int 1))) tNil)))
    (tAsg (tOp (rIxL K) (tOp (rIxT K) (tVar 0) (tC (.int 1))) (tOp xSub (tVar 3) (tC (.int 1)))) (gName 3))))))
    (tRet (tCB (rSortedI K) (tCons (tVar 4) tNil)))))))
def Net.far2 (N : Net) (a b a' b' : Int) (fs : List Int) (m : Nat) : Prop := match N with
  | .line _ => True
  | .ring n => (m : Int) = up n a' b' ∧ (fs.length : Int) + m = up n a b
  | .tree _ => (m : Int) = a' + b' ∧ (fs.length : Int) + m ≤ a + b
theorem pure_ties_on {v0 v1 : V} {H : Hp} {Q : VK} {E : XK} (h : pr_ties_on K v0 v1 H Q E) : t_ties_on K ⟨fun _ H' => Q .non H', Q, fun _ _ => False, fun _ _ => False⟩ [some v0, some v1, none, none, none] H := by
  obtain ⟨N, a, b, hd, hw, ok, ⟨w1, w2, w3, w4, w5⟩, q⟩ := h
  obtain ⟨c, y, rfl, hs, hy⟩ := dp_net hd
  obtain ⟨p, rfl, hp⟩ := dp_pair hw
  unfold t_ties_on
  wtm_at "s"
  refine ⟨sz (by simp), fun fo nfo => ?_⟩
  have s1 := same_new (o := .lst []) nfo
  have e1 : upd H fo (.lst []) fo = some (.lst (List.map V.int [])) := upd_same
  generalize upd H fo (.lst []) = H1 at s1 e1 ⊢
  wtm_at "s"
  refine k_eqS ?_
  have loop : ∀ (nx : L2.St → Hp → Prop) (bk ct : L2.St → Hp → Prop), (match N with | .line _ => False | _ => True) → ∀ (W : Nat → L2.St → Hp → Prop), True := fun _ _ _ _ _ => trivial
  cases N with
  | line n =>
    obtain rfl := dp_int hy
    rw [show Net.kind (.line n) = Str.ofString "line" from rfl, s_same]
    obtain ⟨o1, o2⟩ := ok
    have w4' : a < n := w4
    have w5' : b < n := w5
    wtm_at "s"
    have hmn : (if b < a then b else a) = min a b := by split <;> omega
    have hmx : (if b > a then b else a) = max a b := by split <;> omega
    rw [hmn, hmx]
    refine ⟨.of_le (by omega) (by omega) (by omega) (by omega), fun l nl => ?_⟩
    refine q l ((List.range (max a b - min a b).toNat).map fun i => min a b + (i : Nat)) _ (s1.free nl) (s1.trans (same_new nl)) (by rw [upd_same, rg_ints]) ⟨?_, fun t => ?_, ?_⟩
    · exact List.pairwise_map.mpr (List.pairwise_lt_range.imp fun h => by omega)
    · show _ ↔ min a b ≤ t ∧ t < max a b
      rw [List.mem_map]
      constructor
      · rintro ⟨i, hi, rfl⟩
        have := List.mem_range.mp hi
        omega
      · intro h
        exact ⟨(t - min a b).toNat, List.mem_range.mpr (by omega), by omega⟩
    · show ((List.map _ _).length : Int) = max a b - min a b
      rw [List.length_map, List.length_range]
      omega
  | ring n =>
    obtain rfl := dp_int hy
    rw [show Net.kind (.ring n) = Str.ofString "ring" from rfl] at hs ⊢
    rw [s_rl]
    obtain ⟨o1, o2⟩ := ok
    have w4' : a < n := w4
    have w5' : b < n := w5
    have u0 := up_nonneg w2 w4' w3 w5'
    wtm_at "s"
    refine ⟨fun m σ' H' => ∃ a' fs, σ' = [some (.ref c), some (.ref p), some (.int a'), some (.int b), some (.ref fo)] ∧ Same H H' ∧ H' fo = some (.lst (List.map V.int fs)) ∧ 0 ≤ a' ∧ a' < n ∧ fs.Nodup ∧ (m : Int) = up n a' b ∧ (fs.length : Int) + m = up n a b ∧
      (∀ t, OnTie (.ring n) a b t ↔ t ∈ fs ∨ OnTie (.ring n) a' b t) ∧ (∀ t, t ∈ fs → ¬ OnTie (.ring n) a' b t),
      ⟨(up n a b).toNat, a, [], rfl, s1, e1, w2, w4', List.nodup_nil, by omega, by simp; omega, fun t => by simp, fun t z => by cases z⟩, ?_⟩
    rintro m σ' H' ⟨a', fs, rfl, sm, hf, a0, a1, nd, hm, hfl, ht, hn⟩
    wtm_at "s"
    refine k_itn (fun c1 => ?_) (fun c1 => ?_)
    · obtain ⟨f1, f2, f3, f4, f5⟩ := ring_far a0 a1 w3 w5' c1
      have uab : up n a b < n := by unfold up; split <;> omega
      refine ⟨fun σ' H' => ∃ fs', σ' = [some (.ref c), some (.ref p), some (.int ((a' + 1) % n)), some (.int b), some (.ref fo)] ∧ Same H H' ∧ H' fo = some (.lst (List.map V.int fs')) ∧ fs'.Nodup ∧ (fs'.length : Int) + (m - 1 : Nat) = up n a b ∧
        (∀ t, OnTie (.ring n) a b t ↔ t ∈ fs' ∨ OnTie (.ring n) ((a' + 1) % n) b t) ∧ (∀ t, t ∈ fs' → ¬ OnTie (.ring n) ((a' + 1) % n) b t), fun σ' H' ⟨fs', e, g1, g2, g3, g4, g5, g6⟩ => ⟨m - 1, by omega, _, fs', e, g1, g2, f2, f3, g3, by omega, g4, g5, g6⟩, ?_⟩
      have hs' : SqT K H' c [.str (Str.ofString "ring"), .int n] := same_seqT sm hs
      wtm_at "s"
      refine k_eqS ?_
      rw [s_same]
      wtm_at "s"
      refine k_tyL (sl hf) ?_
      wtm_at "s"
      refine k_append hf (by rw [List.length_map]; omega) ?_
      have hs2 : SqT K (upd H' fo (.lst (List.map V.int fs ++ [.int a']))) c [.str (Str.ofString "ring"), .int n] := same_seqT (same_mut sm nfo) hs
      wtm_at "s"
      refine ⟨fs ++ [a'], rfl, same_mut sm nfo, by rw [upd_same, List.map_append]; rfl, ?_, ?_, fun t => ?_, fun t z => ?_⟩
      · refine List.nodup_append.mpr ⟨nd, by simp, fun x hx y hy e => ?_⟩
        have : y = a' := by simpa using hy
        subst this; subst e
        exact hn x hx ⟨a0, a1, by rw [up_self]; exact f4⟩
      · rw [List.length_append]; show ((fs.length + 1 : Nat) : Int) + _ = _; omega
      · rw [ht t, List.mem_append]
        show t ∈ fs ∨ (0 ≤ t ∧ t < n ∧ up n a' t < up n a' b) ↔ (t ∈ fs ∨ t ∈ [a']) ∨ (0 ≤ t ∧ t < n ∧ _)
        by_cases r : 0 ≤ t ∧ t < n
        · have st := (ring_step a0 a1 w3 w5' c1 r.1 r.2).1
          simp only [r.1, r.2, true_and, List.mem_singleton, st, or_assoc]
        · have : t ≠ a' := fun e => r (by omega)
          constructor
          · rintro (h | h)
            · exact .inl (.inl h)
            · exact absurd ⟨h.1, h.2.1⟩ r
          · rintro ((h | h) | h)
            · exact .inl h
            · exact absurd (by simpa using h) this
            · exact absurd ⟨h.1, h.2.1⟩ r
      · rcases List.mem_append.mp z with z | z
        · intro o
          obtain ⟨o1, o2, o3⟩ := o
          exact hn t z ⟨o1, o2, (ring_step a0 a1 w3 w5' c1 o1 o2).1.mpr (.inr o3)⟩
        · have e : t = a' := by simpa using z
          intro o
          obtain ⟨o1, o2, o3⟩ := o
          exact (ring_step a0 a1 w3 w5' c1 o1 o2).2 e o3
    · subst c1
      rw [up_self] at hm
      wtm_at "s"
      refine k_sortedI (sl hf) (fun ns l pm srt nl => ?_)
      refine q l ns _ (sm.free nl) (sm.trans (same_new nl)) upd_same ⟨srt_of nd pm srt, fun t => ?_, ?_⟩
      · rw [pm.mem_iff, ht t]
        constructor
        · exact .inl
        · rintro (h | h)
          · exact h
          · obtain ⟨_, _, h⟩ := h
            rw [up_self] at h
            have := up_nonneg a0 a1 (b := t) (by assumption) (by assumption)
            omega
      · show (ns.length : Int) = up n a a'
        rw [pm.length_eq]; omega
  | tree ps =>
    obtain ⟨d, rfl, hdl⟩ := dp_ints hy
    rw [show Net.kind (.tree ps) = Str.ofString "tree" from rfl] at hs ⊢
    rw [s_tl]
    have w4' : a < ps.length + 1 := w4
    have w5' : b < ps.length + 1 := w5
    have l60 := ok.2.1
    wtm_at "s"
    refine ⟨fun m σ' H' => ∃ a' b' fs, σ' = [some (.ref c), some (.ref p), some (.int a'), some (.int b'), some (.ref fo)] ∧ Same H H' ∧ H' fo = some (.lst (List.map V.int fs)) ∧ 0 ≤ a' ∧ a' < ps.length + 1 ∧ 0 ≤ b' ∧ b' < ps.length + 1 ∧ fs.Nodup ∧ (m : Int) = a' + b' ∧ (fs.length : Int) + m ≤ a + b ∧
      (∀ t, OnTie (.tree ps) a b t ↔ t ∈ fs ∨ OnTie (.tree ps) a' b' t) ∧ (∀ t, t ∈ fs → ¬ OnTie (.tree ps) a' b' t),
      ⟨(a + b).toNat, a, b, [], rfl, s1, e1, w2, w4', w3, w5', List.nodup_nil, by omega, by simp; omega, fun t => by simp, fun t z => by cases z⟩, ?_⟩
    rintro m σ' H' ⟨a', b', fs, rfl, sm, hf, a0, a1, b0, b1, nd, hm, hfl, ht, hn⟩
    wtm_at "s"
    refine k_itn (fun c1 => ?_) (fun c1 => ?_)
    · refine ⟨fun σ' H' => ∃ m' a2 b2 fs', m' < m ∧ σ' = [some (.ref c), some (.ref p), some (.int a2), some (.int b2), some (.ref fo)] ∧ Same H H' ∧ H' fo = some (.lst (List.map V.int fs')) ∧ 0 ≤ a2 ∧ a2 < ps.length + 1 ∧ 0 ≤ b2 ∧ b2 < ps.length + 1 ∧ fs'.Nodup ∧ (m' : Int) = a2 + b2 ∧ (fs'.length : Int) + m' ≤ a + b ∧
        (∀ t, OnTie (.tree ps) a b t ↔ t ∈ fs' ∨ OnTie (.tree ps) a2 b2 t) ∧ (∀ t, t ∈ fs' → ¬ OnTie (.tree ps) a2 b2 t), fun σ' H' ⟨m', a2, b2, fs', l, r⟩ => ⟨m', l, a2, b2, fs', r⟩, ?_⟩
      have hs' : SqT K H' c [.str (Str.ofString "tree"), .ref d] := same_seqT sm hs
      wtm_at "s"
      refine k_eqS ?_
      rw [s_tr]
      wtm_at "s"
      refine k_it (fun c2 => ?_) (fun c2 => ?_)
      · have hpa := ok.2.2 (a' - 1).toNat (by omega)
        wtm_at "s"
        refine k_tyL (sl hf) ?_
        wtm_at "s"
        refine k_append hf (by rw [List.length_map]; omega) ?_
        have sm2 : Same H (upd H' fo (.lst (List.map V.int fs ++ [.int (a' - 1)]))) := same_mut sm nfo
        have hs2 : SqT K (upd H' fo (.lst (List.map V.int fs ++ [.int (a' - 1)]))) c [.str (Str.ofString "tree"), .ref d] := same_seqT sm2 hs
        wtm_at "s"
        refine k_ixI (sm2.seq hdl) (by omega) (by omega) ?_
        wtm_at "s"
        refine ⟨(ps.getD (a' - 1).toNat 0 + b').toNat, _, _, fs ++ [a' - 1], by omega, rfl, sm2, by rw [upd_same, List.map_append]; rfl, by omega, by omega, b0, b1, ?_, by omega, ?_, fun t => ?_, fun t z => ?_⟩
        · refine List.nodup_append.mpr ⟨nd, by simp, fun x hx y hy e => ?_⟩
          have : y = a' - 1 := by simpa using hy
          subst this; subst e
          exact hn _ hx ⟨by omega, by omega, (tree_step ok a0 a1 b0 c2 (by omega)).1.mpr (.inl rfl)⟩
        · rw [List.length_append]; show ((fs.length + 1 : Nat) : Int) + _ ≤ _; omega
        · rw [ht t, List.mem_append]
          show t ∈ fs ∨ (0 ≤ t ∧ t < ps.length ∧ _) ↔ (t ∈ fs ∨ t ∈ [a' - 1]) ∨ (0 ≤ t ∧ t < ps.length ∧ _)
          by_cases r : 0 ≤ t ∧ t < ps.length
          · have st := (tree_step ok a0 a1 b0 c2 r.1).1
            simp only [r.1, r.2, true_and, List.mem_singleton, st, or_assoc]
          · have : t ≠ a' - 1 := fun e => r (by omega)
            constructor
            · rintro (h | h)
              · exact .inl (.inl h)
              · exact absurd ⟨h.1, h.2.1⟩ r
            · rintro ((h | h) | h)
              · exact .inl h
              · exact absurd (by simpa using h) this
              · exact absurd ⟨h.1, h.2.1⟩ r
        · rcases List.mem_append.mp z with z | z
          · rintro ⟨o1, o2, o3⟩
            exact hn t z ⟨o1, o2, (tree_step ok a0 a1 b0 c2 o1).1.mpr (.inr o3)⟩
          · have e : t = a' - 1 := by simpa using z
            rintro ⟨o1, o2, o3⟩
            exact (tree_step ok a0 a1 b0 c2 o1).2 e o3
      · have c3 : a' < b' := by omega
        have hpb := ok.2.2 (b' - 1).toNat (by omega)
        have sym : ∀ u v t, OnTie (.tree ps) u v t ↔ OnTie (.tree ps) v u t := fun u v t => by
          show (_ ∧ _ ∧ _ ≠ _) ↔ (_ ∧ _ ∧ _ ≠ _)
          constructor
          · rintro ⟨x1, x2, x3⟩; exact ⟨x1, x2, x3.symm⟩
          · rintro ⟨x1, x2, x3⟩; exact ⟨x1, x2, x3.symm⟩
        wtm_at "s"
        refine k_tyL (sl hf) ?_
        wtm_at "s"
        refine k_append hf (by rw [List.length_map]; omega) ?_
        have sm2 : Same H (upd H' fo (.lst (List.map V.int fs ++ [.int (b' - 1)]))) := same_mut sm nfo
        have hs2 : SqT K (upd H' fo (.lst (List.map V.int fs ++ [.int (b' - 1)]))) c [.str (Str.ofString "tree"), .ref d] := same_seqT sm2 hs
        wtm_at "s"
        refine k_ixI (sm2.seq hdl) (by omega) (by omega) ?_
        wtm_at "s"
        refine ⟨(a' + ps.getD (b' - 1).toNat 0).toNat, _, _, fs ++ [b' - 1], by omega, rfl, sm2, by rw [upd_same, List.map_append]; rfl, a0, a1, by omega, by omega, ?_, by omega, ?_, fun t => ?_, fun t z => ?_⟩
        · refine List.nodup_append.mpr ⟨nd, by simp, fun x hx y hy e => ?_⟩
          have : y = b' - 1 := by simpa using hy
          subst this; subst e
          exact hn _ hx ((sym _ _ _).mpr ⟨by omega, by omega, (tree_step ok b0 b1 a0 c3 (by omega)).1.mpr (.inl rfl)⟩)
        · rw [List.length_append]; show ((fs.length + 1 : Nat) : Int) + _ ≤ _; omega
        · rw [ht t, List.mem_append, sym a' b', sym a' (ps.getD (b' - 1).toNat 0)]
          show t ∈ fs ∨ (0 ≤ t ∧ t < ps.length ∧ _) ↔ (t ∈ fs ∨ t ∈ [b' - 1]) ∨ (0 ≤ t ∧ t < ps.length ∧ _)
          by_cases r : 0 ≤ t ∧ t < ps.length
          · have st := (tree_step ok b0 b1 a0 c3 r.1).1
            simp only [r.1, r.2, true_and, List.mem_singleton, st, or_assoc]
          · have : t ≠ b' - 1 := fun e => r (by omega)
            constructor
            · rintro (h | h)
              · exact .inl (.inl h)
              · exact absurd ⟨h.1, h.2.1⟩ r
            · rintro ((h | h) | h)
              · exact .inl h
              · exact absurd (by simpa using h) this
              · exact absurd ⟨h.1, h.2.1⟩ r
        · rw [sym]
          rcases List.mem_append.mp z with z | z
          · rintro ⟨o1, o2, o3⟩
            exact hn t z ((sym _ _ _).mpr ⟨o1, o2, (tree_step ok b0 b1 a0 c3 o1).1.mpr (.inr o3)⟩)
          · have e : t = b' - 1 := by simpa using z
            rintro ⟨o1, o2, o3⟩
            exact (tree_step ok b0 b1 a0 c3 o1).2 e o3
    · subst c1
      wtm_at "s"
      refine k_sortedI (sl hf) (fun ns l pm srt nl => ?_)
      refine q l ns _ (sm.free nl) (sm.trans (same_new nl)) upd_same ⟨srt_of nd pm srt, fun t => ?_, ?_⟩
      · rw [pm.mem_iff, ht t]
        constructor
        · exact .inl
        · rintro (h | h)
          · exact h
          · exact absurd rfl h.2.2
      · show ns.length < 120
        rw [pm.length_eq]; omega
abbrev sp_ties_on (K : PySem.W.Frag) : Sp := fun vs H Q E => ∃ v0 v1, vs = [v0, v1] ∧ pr_ties_on K v0 v1 H Q E
theorem ok_ties_on (T : Txt K mg A) : FnOk P w K mg base CX0 1 A.a_ties_on A.d_ties_on ["net", "way"] (sp_ties_on K) := by
  refine T.F_ties_on.ok sc_ties_on (fun vs H Q E h => by obtain ⟨v0, v1, rfl, _⟩ := h; rfl) (fun cdv A0 outer s H vs Q E hr h => ?_)
  obtain ⟨v0, v1, rfl, h⟩ := h
  exact ⟨t_ties_on K, (pss_cons (ps_asg (pv 1) (pg_tup (by rfl) (pgs_cons (pg_name (i := 2) sc_ties_on.nd rfl (Or.inl rfl)) (pgs_cons (pg_name (i := 3) sc_ties_on.nd rfl (Or.inl rfl)) pgs_nil))))
      (pss_cons (ps_set (i := 4) sc_ties_on.nd rfl (Or.inl rfl) (pe_lst pa_nil))
      (pss_cons (ps_if (pt_cmpR op_eq (pe_ix ix_tup (pv 0) pe_int (fun _ _ => rfl)) pe_str (nomark _)) (pss_one (ps_ret (pe_listRg (by rfl) (by rfl) T.z_list (prg_2 (by rfl) T.z_range (pe_callB (q_min2 (by rfl)) (by rfl) T.z_min (by decide +kernel) (pa_cons (pv 2) (pa_cons (pv 3) pa_nil))) (pe_callB (q_max2 (by rfl)) (by rfl) T.z_max (by decide +kernel) (pa_cons (pv 2) (pa_cons (pv 3) pa_nil))))))) pss_nil)
      (pss_cons (ps_while PassesOwn.never (pt_cmpR op_ne (pv 2) (pv 3) (nomark _))
      (pss_one (ps_if (pt_cmpR op_eq (pe_ix ix_tup (pv 0) pe_int (fun _ _ => rfl)) pe_str (nomark _)) (pss_cons (ps_expr (pe_bm PySem.F.plainAttrs_list PySem.F.slot_list_append PySem.F.type_list_append mt_append (pv 4) (pa_cons (pv 2) pa_nil)))
      (pss_one (ps_set (i := 2) sc_ties_on.nd rfl (Or.inl rfl) (pe_op op_mod (pe_op op_add (pv 2) pe_int) (pe_ix ix_tup (pv 0) pe_int (fun _ _ => rfl)))))) (pss_one (ps_if (pt_cmpR op_gt (pv 2) (pv 3) (nomark _)) (pss_cons (ps_expr (pe_bm PySem.F.plainAttrs_list PySem.F.slot_list_append PySem.F.type_list_append mt_append (pv 4) (pa_cons (pe_op op_sub (pv 2) pe_int) pa_nil)))
      (pss_one (ps_set (i := 2) sc_ties_on.nd rfl (Or.inl rfl) (pe_ix ix_list (pe_ix ix_tup (pv 0) pe_int (fun _ _ => rfl)) (pe_op op_sub (pv 2) pe_int) (fun _ _ => rfl))))) (pss_cons (ps_expr (pe_bm PySem.F.plainAttrs_list PySem.F.slot_list_append PySem.F.type_list_append mt_append (pv 4) (pa_cons (pe_op op_sub (pv 3) pe_int) pa_nil)))
      (pss_one (ps_set (i := 3) sc_ties_on.nd rfl (Or.inl rfl) (pe_ix ix_list (pe_ix ix_tup (pv 0) pe_int (fun _ _ => rfl)) (pe_op op_sub (pv 3) pe_int) (fun _ _ => rfl))))))))))
      (pss_one (ps_ret (pe_callB cr_sortedI (by rfl) T.z_sorted (by decide +kernel) (pa_cons (pv 4) pa_nil)))))))), pure_ties_on h⟩
/-- the numbers below n that P takes -/
def keepI (n : Nat) (P : Nat → Bool) : List Int := ((List.range n).filter P).map fun (i : Nat) => (i : Int)
theorem keepI_fm (n : Nat) (P : Nat → Bool) : (List.range n).filterMap (fun i => if P i = true then some (V.int (0 + (i : Nat))) else none) = List.map V.int (keepI n P) := by
  unfold keepI
  rw [List.map_map]
  induction (List.range n) with
  | nil => rfl
  | cons x r ih =>
    by_cases c : P x = true
    · rw [List.filterMap_cons, if_pos c, List.filter_cons, if_pos c]
      simp only [List.map_cons]
      rw [ih]
      simp
    · rw [List.filterMap_cons, if_neg c, List.filter_cons, if_neg c]
      exact ih
theorem keepI_srt (n : Nat) (P : Nat → Bool) : (keepI n P).Pairwise (· < ·) := by
  unfold keepI
  exact List.pairwise_map.mpr ((List.pairwise_lt_range.filter P).imp fun h => by omega)
theorem keepI_mem {n : Nat} {P : Nat → Bool} {t : Int} : t ∈ keepI n P ↔ 0 ≤ t ∧ t < n ∧ P t.toNat = true := by
  unfold keepI
  rw [List.mem_map]
  constructor
  · rintro ⟨i, hi, rfl⟩
    obtain ⟨h1, h2⟩ := List.mem_filter.mp hi
    have := List.mem_range.mp h1
    exact ⟨by omega, by omega, by rw [Int.toNat_natCast]; exact h2⟩
  · rintro ⟨h0, h1, h2⟩
    exact ⟨t.toNat, List.mem_filter.mpr ⟨List.mem_range.mpr (by omega), h2⟩, by omega⟩


/-! ### ways as they come: levels, own ties, three hues to a level -/
abbrev Ent := (Int × Int) × Nat
def onI (w : Int × Int) (t : Int) : Prop := w.1 ≤ t ∧ t ≤ w.2
def pUp (t : Int) (i : Nat) (e : Ent) : Bool := decide (e.2 ≤ i) && (decide (e.1.1 ≤ t) && decide (t ≤ e.1.2))
def upto (es : List Ent) (t : Int) (i : Nat) : Nat := es.countP (pUp t i)
def LevelOf (es : List Ent) (w : Int × Int) (i : Nat) : Prop := 1 ≤ i ∧ (∀ t, onI w t → upto es t i < i) ∧ ∀ j, 1 ≤ j → j < i → ∃ t, onI w t ∧ j ≤ upto es t j
def GoodE (es : List Ent) : Prop := ∀ n w i, es[n]? = some (w, i) → w.1 ≤ w.2 ∧ LevelOf (es.take n) w i
theorem pUp_on {t : Int} {i : Nat} {e : Ent} : pUp t i e = true ↔ e.2 ≤ i ∧ onI e.1 t := by
  unfold pUp onI
  simp [Bool.and_eq_true, decide_eq_true_eq]
theorem upto_take {es : List Ent} {t : Int} {i n m : Nat} (h : n ≤ m) : upto (es.take n) t i ≤ upto (es.take m) t i := by
  have : es.take n = (es.take m).take n := by rw [List.take_take, Nat.min_eq_left h]
  rw [this]
  exact (List.take_sublist n (es.take m)).countP_le
theorem upto_lev {es : List Ent} {t : Int} {i j : Nat} (h : i ≤ j) : upto es t i ≤ upto es t j := List.countP_mono_left fun e _ he => by
  rw [pUp_on] at he ⊢
  exact ⟨by omega, he.2⟩
theorem upto_zero {es : List Ent} {t : Int} (h : ∀ e ∈ es, 1 ≤ e.2) : upto es t 0 = 0 := by
  unfold upto
  rw [List.countP_eq_zero]
  intro e he z
  have := h e he
  rw [pUp_on] at z
  omega
theorem take_at {α : Type} {es : List α} {k : Nat} {e : α} (h : es[k]? = some e) : es.take (k + 1) = es.take k ++ [e] := by
  rw [List.take_add_one, h]; rfl
theorem upto_next {es : List Ent} {t : Int} {i k m : Nat} {e : Ent} (h : es[k]? = some e) (hk : k < m) (hp : pUp t i e = true) : upto (es.take k) t i + 1 ≤ upto (es.take m) t i := by
  refine Nat.le_trans ?_ (upto_take (n := k + 1) hk)
  rw [take_at h]
  unfold upto
  rw [List.countP_append]
  simp [hp]
theorem upto_step {es : List Ent} {t : Int} {i k : Nat} {e : Ent} (h : es[k]? = some e) (hi : e.2 = i) (i1 : 1 ≤ i) (ht : onI e.1 t) : upto es t (i - 1) + 1 ≤ upto es t i := by
  obtain ⟨h1, h2⟩ := List.getElem?_eq_some_iff.mp h
  have sp : es = es.take k ++ e :: es.drop (k + 1) := by
    rw [← h2, ← List.drop_eq_getElem_cons h1, List.take_append_drop]
  have a := upto_lev (es := es.take k) (t := t) (i := i - 1) (j := i) (by omega)
  have b := upto_lev (es := es.drop (k + 1)) (t := t) (i := i - 1) (j := i) (by omega)
  have c : pUp t i e = true := pUp_on.mpr ⟨by omega, ht⟩
  have d : pUp t (i - 1) e = false := by
    cases hh : pUp t (i - 1) e with
    | false => rfl
    | true => have := (pUp_on.mp hh).1; omega
  rw [sp]
  unfold upto at a b ⊢
  rw [List.countP_append, List.countP_append, List.countP_cons, List.countP_cons, c, d]
  simp only [if_true, Bool.false_eq_true, if_false]
  omega
theorem good_pos {es : List Ent} (g : GoodE es) : ∀ e ∈ es, 1 ≤ e.2 := fun e he => by
  obtain ⟨k, hk, h⟩ := List.getElem_of_mem he
  exact (g k e.1 e.2 (by rw [List.getElem?_eq_getElem hk, h])).2.1
theorem good_take {es : List Ent} (g : GoodE es) (n : Nat) : GoodE (es.take n) := fun k w i h => by
  rw [List.getElem?_take] at h
  split at h
  · have := g k w i h
    rw [List.take_take, Nat.min_eq_left (by omega)]
    exact this
  · cases h
/-- a way's own tie: no other way of its level lies on it -/
theorem own_is {es : List Ent} (g : GoodE es) {n i : Nat} {w : Int × Int} (h : es[n]? = some (w, i)) {t : Int} (ht : onI w t) (hu : i - 1 ≤ upto (es.take n) t (i - 1)) : ∀ m e, es[m]? = some e → m ≠ n → e.2 = i → ¬ onI e.1 t := by
  obtain ⟨_, l1, l2, _⟩ := g n w i h
  intro m e hm ne he on
  have u1 := l2 t ht
  by_cases c : m < n
  · have hm' : (es.take n)[m]? = some e := by rw [List.getElem?_take, if_pos c]; exact hm
    have := upto_step hm' he l1 on
    omega
  · have u2 := upto_lev (es := es.take n) (t := t) (i := i - 1) (j := i) (by omega)
    have u3 := upto_next (t := t) (i := i) h (show n < m by omega) (pUp_on.mpr ⟨Nat.le_refl _, ht⟩)
    obtain ⟨ew, ei⟩ := e
    have he' : ei = i := he
    subst he'
    obtain ⟨_, _, l2', _⟩ := g m ew ei hm
    have := l2' t on
    omega
theorem own_ex {es : List Ent} (g : GoodE es) {n i : Nat} {w : Int × Int} (h : es[n]? = some (w, i)) : ∃ t, onI w t ∧ i - 1 ≤ upto (es.take n) t (i - 1) := by
  obtain ⟨hw, l1, l2, l3⟩ := g n w i h
  by_cases c : i = 1
  · subst c
    exact ⟨w.1, ⟨by omega, hw⟩, Nat.zero_le _⟩
  · obtain ⟨t, h1, h2⟩ := l3 (i - 1) (by omega) (by omega)
    exact ⟨t, h1, h2⟩
def meetI (w v : Int × Int) : Prop := max w.1 v.1 ≤ min w.2 v.2
/-- of three ways of one level no two lie to the same side of a third one that they meet -/
theorem one_side {es : List Ent} (g : GoodE es) {n a b i : Nat} {w x y : Int × Int} {t : Int} (hn : es[n]? = some (w, i)) (ha : es[a]? = some (x, i)) (hb : es[b]? = some (y, i)) (an : a ≠ n) (bn : b ≠ n) (ht : onI w t) (hu : i - 1 ≤ upto (es.take n) t (i - 1))
    (ma : meetI x w) (mb : meetI y w) (side : (x.2 < t ∧ y.2 < t) ∨ (t < x.1 ∧ t < y.1)) : a = b := by
  refine Classical.byContradiction fun ne => ?_
  obtain ⟨p, p1, p2⟩ := own_ex g ha
  obtain ⟨q, q1, q2⟩ := own_ex g hb
  have pw := own_is g ha p1 p2 n _ hn (fun z => an z.symm) rfl
  have py := own_is g ha p1 p2 b _ hb (fun z => ne z.symm) rfl
  have qw := own_is g hb q1 q2 n _ hn (fun z => bn z.symm) rfl
  have qx := own_is g hb q1 q2 a _ ha ne rfl
  unfold onI at p1 q1 pw py qw qx ht
  unfold meetI at ma mb
  simp only at pw py qw qx
  rcases side with ⟨s1, s2⟩ | ⟨s1, s2⟩ <;> omega
theorem side_of {es : List Ent} (g : GoodE es) {n a i : Nat} {w x : Int × Int} {t : Int} (hn : es[n]? = some (w, i)) (ha : es[a]? = some (x, i)) (an : a ≠ n) (ht : onI w t) (hu : i - 1 ≤ upto (es.take n) t (i - 1)) : x.2 < t ∨ t < x.1 := by
  have := own_is g hn ht hu a _ ha an rfl
  unfold onI at this
  simp only at this
  omega
/-- no three ways of its level meet a way -/
theorem no_three {es : List Ent} (g : GoodE es) {n a b c i : Nat} {w x y z : Int × Int} (hn : es[n]? = some (w, i)) (ha : es[a]? = some (x, i)) (hb : es[b]? = some (y, i)) (hc : es[c]? = some (z, i)) (an : a ≠ n) (bn : b ≠ n) (cn : c ≠ n)
    (ma : meetI x w) (mb : meetI y w) (mc : meetI z w) (ab : a ≠ b) (ac : a ≠ c) (bc : b ≠ c) : False := by
  obtain ⟨t, ht, hu⟩ := own_ex g hn
  rcases side_of g hn ha an ht hu with s1 | s1 <;> rcases side_of g hn hb bn ht hu with s2 | s2 <;> rcases side_of g hn hc cn ht hu with s3 | s3
  · exact ab (one_side g hn ha hb an bn ht hu ma mb (.inl ⟨s1, s2⟩))
  · exact ab (one_side g hn ha hb an bn ht hu ma mb (.inl ⟨s1, s2⟩))
  · exact ac (one_side g hn ha hc an cn ht hu ma mc (.inl ⟨s1, s3⟩))
  · exact bc (one_side g hn hb hc bn cn ht hu mb mc (.inr ⟨s2, s3⟩))
  · exact bc (one_side g hn hb hc bn cn ht hu mb mc (.inl ⟨s2, s3⟩))
  · exact ac (one_side g hn ha hc an cn ht hu ma mc (.inr ⟨s1, s3⟩))
  · exact ab (one_side g hn ha hb an bn ht hu ma mb (.inr ⟨s1, s2⟩))
  · exact ab (one_side g hn ha hb an bn ht hu ma mb (.inr ⟨s1, s2⟩))
/-- a way of level one meets no other one -/
theorem one_alone {es : List Ent} (g : GoodE es) {n a : Nat} {w x : Int × Int} (hn : es[n]? = some (w, 1)) (ha : es[a]? = some (x, 1)) (an : a < n) (ma : meetI x w) : False := by
  obtain ⟨hw, _, l2, _⟩ := g n w 1 hn
  obtain ⟨hx, _⟩ := g a x 1 ha
  unfold meetI at ma
  have on1 : onI w (max x.1 w.1) := ⟨by omega, by omega⟩
  have on2 : onI x (max x.1 w.1) := ⟨by omega, by omega⟩
  have := upto_next (t := max x.1 w.1) (i := 1) ha an (pUp_on.mpr ⟨Nat.le_refl _, on2⟩)
  have := l2 _ on1
  omega
/-- a level is told: at the worst one more than there are ways -/
theorem level_ex (es : List Ent) (w : Int × Int) : ∃ i, i ≤ es.length + 1 ∧ LevelOf es w i := by
  have ex : ∃ i, 1 ≤ i ∧ ∀ t, onI w t → upto es t i < i := ⟨es.length + 1, by omega, fun t _ => by
    have : upto es t (es.length + 1) ≤ es.length := List.countP_le_length
    omega⟩
  have key : ∀ n, (∃ i, i ≤ n ∧ 1 ≤ i ∧ ∀ t, onI w t → upto es t i < i) → ∃ i, i ≤ n ∧ LevelOf es w i := by
    intro n
    induction n with
    | zero => rintro ⟨i, h1, h2, _⟩; omega
    | succ n ih =>
      rintro ⟨i, h1, h2, h3⟩
      by_cases c : ∃ i, i ≤ n ∧ 1 ≤ i ∧ ∀ t, onI w t → upto es t i < i
      · obtain ⟨i, h, l⟩ := ih c
        exact ⟨i, by omega, l⟩
      · refine ⟨i, h1, h2, h3, fun j j1 ji => Classical.byContradiction fun z => c ⟨j, by omega, j1, fun t ht => ?_⟩⟩
        by_cases d : upto es t j < j
        · exact d
        · exact absurd ⟨t, ht, by omega⟩ z
  refine key (es.length + 1) ⟨es.length + 1, Nat.le_refl _, by omega, fun t _ => ?_⟩
  have : upto es t (es.length + 1) ≤ es.length := List.countP_le_length
  omega
theorem level_one {es : List Ent} {w : Int × Int} {i j : Nat} (h : LevelOf es w i) (h' : LevelOf es w j) : i = j := by
  obtain ⟨a1, a2, a3⟩ := h
  obtain ⟨b1, b2, b3⟩ := h'
  rcases Nat.lt_trichotomy i j with c | c | c
  · obtain ⟨t, t1, t2⟩ := b3 i a1 c
    have := a2 t t1
    omega
  · exact c
  · obtain ⟨t, t1, t2⟩ := a3 j b1 c
    have := b2 t t1
    omega
theorem good_more {es : List Ent} {w : Int × Int} {i : Nat} (g : GoodE es) (hw : w.1 ≤ w.2) (l : LevelOf es w i) : GoodE (es ++ [(w, i)]) := fun n v j h => by
  by_cases c : n < es.length
  · rw [List.getElem?_append_left c] at h
    rw [List.take_append_of_le_length (by omega)]
    exact g n v j h
  · have hn : n = es.length := by
      have := (List.getElem?_eq_some_iff.mp h).1
      simp at this
      omega
    subst hn
    rw [List.getElem?_append_right (Nat.le_refl _)] at h
    simp at h
    obtain ⟨rfl, rfl⟩ := h
    rw [List.take_left]
    exact ⟨hw, l⟩
/-- no level is greater than the load at its own tie -/
theorem level_load {es : List Ent} (g : GoodE es) {n i : Nat} {w : Int × Int} (h : es[n]? = some (w, i)) : ∃ t, onI w t ∧ i ≤ es.countP fun e => decide (e.1.1 ≤ t) && decide (t ≤ e.1.2) := by
  obtain ⟨t, h1, h2⟩ := own_ex g h
  obtain ⟨_, l1, _⟩ := g n w i h
  refine ⟨t, h1, ?_⟩
  have u2 := upto_lev (es := es.take n) (t := t) (i := i - 1) (j := i) (by omega)
  have u3 := upto_next (t := t) (i := i) h (show n < n + 1 by omega) (pUp_on.mpr ⟨Nat.le_refl _, h1⟩)
  have u4 : upto (es.take (n + 1)) t i ≤ upto es t i := (List.take_sublist _ es).countP_le
  have u5 : upto es t i ≤ es.countP fun e => decide (e.1.1 ≤ t) && decide (t ≤ e.1.2) := List.countP_mono_left fun e _ he => by
    have := (pUp_on.mp he).2
    unfold onI at this
    simp [this.1, this.2]
  omega


def pr_law_mix (K : PySem.W.Frag) (v0 v1 : V) (H : Hp) (Q : VK) (_ : XK) : Prop := ∃ x k : Int, v0 = .int x ∧ v1 = .int k ∧ 0 ≤ x ∧ x < 2147483629 ∧ 0 ≤ k ∧ k < 10000000 ∧ ∀ r, 0 ≤ r → r < 2147483587 → Q (.int r) H
def t_law_mix (K : PySem.W.Frag) : TS :=
  (tSeq (tAsg (tOp xMod (tOp xMul (tOp xAdd (tOp xAdd (tOp xMul (tVar 0) (tVar 0)) (tOp xMul (tVar 1) (tVar 0))) (tOp xMul (tOp xMul (tC (.int 7)) (tVar 1)) (tVar 1))) (tC (.int 1103515245))) (tC (.int 2147483629))) (gName 2))
    (tRet (tOp xMod (tOp xMul (tVar 2) (tVar 2)) (tC (.int 2147483587)))))
theorem pure_law_mix {v0 v1 : V} {H : Hp} {Q : VK} {E : XK} (h : pr_law_mix K v0 v1 H Q E) : t_law_mix K ⟨fun _ H' => Q .non H', Q, fun _ _ => False, fun _ _ => False⟩ [some v0, some v1, none] H := by
  obtain ⟨x, k, rfl, rfl, x0, x1, k0, k1, q⟩ := h
  unfold t_law_mix
  wtm_at "s"
  exact q _ (Int.emod_nonneg _ (by decide)) (Int.emod_lt_of_pos _ (by decide))
abbrev sp_law_mix (K : PySem.W.Frag) : Sp := fun vs H Q E => ∃ v0 v1, vs = [v0, v1] ∧ pr_law_mix K v0 v1 H Q E
theorem ok_law_mix (T : Txt K mg A) : FnOk P w K mg base CX0 1 A.a_law_mix A.d_law_mix ["_law_number", "_law_k"] (sp_law_mix K) := by
  refine T.F_law_mix.ok sc_law_mix (fun vs H Q E h => by obtain ⟨v0, v1, rfl, _⟩ := h; rfl) (fun cdv A0 outer s H vs Q E hr h => ?_)
  obtain ⟨v0, v1, rfl, h⟩ := h
  exact ⟨t_law_mix K, (pss_cons (ps_set (i := 2) sc_law_mix.nd rfl (Or.inl rfl) (pe_op op_mod (pe_op op_mul (pe_op op_add (pe_op op_add (pe_op op_mul (pv 0) (pv 0)) (pe_op op_mul (pv 1) (pv 0))) (pe_op op_mul (pe_op op_mul pe_int (pv 1)) (pv 1))) pe_int) pe_int))
      (pss_one (ps_ret (pe_op op_mod (pe_op op_mul (pv 2) (pv 2)) pe_int)))), pure_law_mix h⟩
def pr_law_cell_at (K : PySem.W.Frag) (v0 v1 : V) (H : Hp) (Q : VK) (_ : XK) : Prop := ∃ (a : Addr) (ns : List Int) (k : Int), v0 = .ref a ∧ v1 = .int k ∧ SqL K H a (ns.map V.int) ∧ 0 ≤ k ∧ ∀ x, Q (.int x) H
def t_law_cell_at (K : PySem.W.Frag) : TS :=
  (tSeq (tIfS (tTest (tOp xLt (tVar 1) (tCB (rLen K) (tCons (tVar 0) tNil)))) (tRet (tOp (rIxL K) (tVar 0) (tVar 1))) tNext)
    (tRet (tC (.int 0))))
theorem pure_law_cell_at {v0 v1 : V} {H : Hp} {Q : VK} {E : XK} (h : pr_law_cell_at K v0 v1 H Q E) : t_law_cell_at K ⟨fun _ H' => Q .non H', Q, fun _ _ => False, fun _ _ => False⟩ [some v0, some v1] H := by
  obtain ⟨a, ns, k, rfl, rfl, ha, k0, q⟩ := h
  unfold t_law_cell_at
  wtm_at "s"
  refine k_it (fun c => ?_) (fun c => ?_)
  · wtm_at "s"
    refine k_ixI ha k0 c ?_
    exact q _
  · wtm_at "s"
    exact q _
abbrev sp_law_cell_at (K : PySem.W.Frag) : Sp := fun vs H Q E => ∃ v0 v1, vs = [v0, v1] ∧ pr_law_cell_at K v0 v1 H Q E
theorem ok_law_cell_at (T : Txt K mg A) : FnOk P w K mg base CX0 1 A.a_law_cell_at A.d_law_cell_at ["_law_script", "_law_k"] (sp_law_cell_at K) := by
  refine T.F_law_cell_at.ok sc_law_cell_at (fun vs H Q E h => by obtain ⟨v0, v1, rfl, _⟩ := h; rfl) (fun cdv A0 outer s H vs Q E hr h => ?_)
  obtain ⟨v0, v1, rfl, h⟩ := h
  exact ⟨t_law_cell_at K, (pss_cons (ps_if (pt_cmpR op_lt (pv 1) (pe_callB q_len (by rfl) T.z_len (by decide +kernel) (pa_cons (pv 0) pa_nil)) (nomark _)) (pss_one (ps_ret (pe_ix ix_list (pv 0) (pv 1) (fun _ _ => rfl)))) pss_nil)
      (pss_one (ps_ret pe_int))), pure_law_cell_at h⟩
def pr_law_left (K : PySem.W.Frag) (v0 v1 : V) (H : Hp) (Q : VK) (_ : XK) : Prop := ∃ (a : Addr) (ns : List Int) (k : Int), v0 = .ref a ∧ v1 = .int k ∧ SqL K H a (ns.map V.int) ∧ 0 ≤ k ∧ ∀ p H', H p = none → Same H H' → Le H' p 0 → Q (.ref p) H'
def t_law_left (K : PySem.W.Frag) : TS :=
  (tSeq (tAsg (tCall (sp_law_cell_at K) [] E0 (tCons (tVar 0) (tCons (tVar 1) tNil))) (gName 2))
    (tSeq (tIfS (tTest (tOp xLt (tVar 2) (tOp xPow (tC (.int 10)) (tC (.int 18))))) (tRet (tLst (tCons (tOp xMod (tVar 2) (tC (.int 2147483629))) (tCons (tC (.int 0)) (tCons (tC (.int 0)) tNil))))) tNext)
    (tRet (tLst (tCons (tOp xSub (tVar 2) (tOp xPow (tC (.int 10)) (tC (.int 18)))) (tCons (tC (.int 1)) (tCons (tC (.int 0)) tNil)))))))
theorem pure_law_left {v0 v1 : V} {H : Hp} {Q : VK} {E : XK} (h : pr_law_left K v0 v1 H Q E) : t_law_left K ⟨fun _ H' => Q .non H', Q, fun _ _ => False, fun _ _ => False⟩ [some v0, some v1, none] H := by
  obtain ⟨a, ns, k, rfl, rfl, ha, k0, q⟩ := h
  unfold t_law_left
  wtm_at "s"
  refine ⟨_, _, rfl, a, ns, k, rfl, rfl, ha, k0, fun x => ?_⟩
  wtm_at "s"
  refine k_it (fun c => ?_) (fun c => ?_)
  · wtm_at "s"
    refine ⟨sz (by simp), fun p np => ?_⟩
    exact q p _ np (same_new np) ⟨⟨_, _, upd_same, fun _ => ⟨Int.emod_nonneg _ (by decide), Int.emod_lt_of_pos _ (by decide)⟩⟩, by decide⟩
  · wtm_at "s"
    refine ⟨sz (by simp), fun p np => ?_⟩
    exact q p _ np (same_new np) ⟨⟨_, _, upd_same, fun z => absurd z (by decide)⟩, by decide⟩
abbrev sp_law_left (K : PySem.W.Frag) : Sp := fun vs H Q E => ∃ v0 v1, vs = [v0, v1] ∧ pr_law_left K v0 v1 H Q E
theorem ok_law_left (T : Txt K mg A) : FnOk P w K mg base CX0 2 A.a_law_left A.d_law_left ["_law_script", "_law_k"] (sp_law_left K) := by
  refine T.F_law_left.ok sc_law_left (fun vs H Q E h => by obtain ⟨v0, v1, rfl, _⟩ := h; rfl) (fun cdv A0 outer s H vs Q E hr h => ?_)
  obtain ⟨v0, v1, rfl, h⟩ := h
  exact ⟨t_law_left K, (pss_cons (ps_set (i := 2) sc_law_left.nd rfl (Or.inl rfl) (pe_call (ok_law_cell_at T) (hr.mono (by decide)) (by rfl) T.g_law_cell_at T.F_law_cell_at.kp T.b_law_cell_at .nil pass0 (pa_cons (pv 0) (pa_cons (pv 1) pa_nil))))
      (pss_cons (ps_if (pt_cmpR op_lt (pv 2) (pe_op op_pow pe_int pe_int) (nomark _)) (pss_one (ps_ret (pe_lst (pa_cons (pe_op op_mod (pv 2) pe_int) (pa_cons pe_int (pa_cons pe_int pa_nil)))))) pss_nil)
      (pss_one (ps_ret (pe_lst (pa_cons (pe_op op_sub (pv 2) (pe_op op_pow pe_int pe_int)) (pa_cons pe_int (pa_cons pe_int pa_nil)))))))), pure_law_left h⟩
def pr_law_draw (K : PySem.W.Frag) (v0 v1 : V) (H : Hp) (Q : VK) (_ : XK) : Prop := ∃ (pu : Addr) (k m : Int), v0 = .ref pu ∧ v1 = .int m ∧ Le H pu k ∧ k < 1000000 ∧ 0 < m ∧ m < 2 ^ 200 ∧ ∀ r H', 0 ≤ r → r < m → Le H' pu (k + 1) → Same (hid [pu] H) (hid [pu] H') → Q (.int r) H'
def t_law_draw (K : PySem.W.Frag) : TS :=
  (tSeq (tAsg (tOp xAdd (tOp (rIxL K) (tVar 0) (tC (.int 2))) (tC (.int 1))) (gSub (tVar 0) (tC (.int 2)) rSetL))
    (tSeq (tIfS (tTest (tOp rEq (tOp (rIxL K) (tVar 0) (tC (.int 1))) (tC (.int 0)))) (tSeq (tAsg (tCall (sp_law_mix K) [] E0 (tCons (tOp (rIxL K) (tVar 0) (tC (.int 0))) (tCons (tOp (rIxL K) (tVar 0) (tC (.int 2))) tNil))) (gName 2))
    (tSeq (tIfS (tTest (tOp xGt (tVar 1) (tOp xPow (tC (.int 10)) (tC (.int 9))))) (tRet (tOp xMod (tOp xMul (tVar 2) (tOp xAdd (tOp xPow (tCall (sp_law_mix K) [] E0 (tCons (tOp (rIxL K) (tVar 0) (tC (.int 0))) (tCons (tOp xAdd (tOp (rIxL K) (tVar 0) (tC (.int 2))) (tC (.int 500))) tNil))) (tC (.int 3))) (tC (.int 1)))) (tVar 1))) tNext)
    (tRet (tOp xMod (tOp xMod (tOp xMul (tVar 2) (tOp xAdd (tVar 2) (tC (.int 2)))) (tC (.int 2147483579))) (tVar 1))))) tNext)
    (tSeq (tAsg (tOp xMod (tOp (rIxL K) (tVar 0) (tC (.int 0))) (tVar 1)) (gName 3))
    (tSeq (tAsg (tOp xDivW (tOp (rIxL K) (tVar 0) (tC (.int 0))) (tVar 1)) (gSub (tVar 0) (tC (.int 0)) rSetL))
    (tRet (tVar 3))))))
theorem pure_law_draw {v0 v1 : V} {H : Hp} {Q : VK} {E : XK} (h : pr_law_draw K v0 v1 H Q E) : t_law_draw K ⟨fun _ H' => Q .non H', Q, fun _ _ => False, fun _ _ => False⟩ [some v0, some v1, none, none] H := by
  obtain ⟨pu, k, m, rfl, rfl, hL, k1, m0, m1, q⟩ := h
  obtain ⟨⟨x, f, hp, hx⟩, k0⟩ := hL
  unfold t_law_draw
  wtm_at "s"
  refine k_ixL (sl hp) rfl ?_
  wtm_at "s"
  refine k_setL hp (j := 2) rfl ?_
  have e1 : upd H pu (.lst [.int x, .int f, .int (k + 1)]) pu = some (.lst [.int x, .int f, .int (k + 1)]) := upd_same
  have S1 : Same (hid [pu] H) (hid [pu] (upd H pu (.lst [.int x, .int f, .int (k + 1)]))) := same_hid_upd (Same.refl _) (by simp)
  rw [show [V.int x, V.int f, V.int k].set 2 (V.int (k + 1)) = [.int x, .int f, .int (k + 1)] from rfl]
  generalize upd H pu (.lst [.int x, .int f, .int (k + 1)]) = H1 at e1 S1 ⊢
  wtm_at "s"
  refine k_ixL (sl e1) rfl ?_
  wtm_at "s"
  refine k_it (fun c => ?_) (fun c => ?_)
  · obtain ⟨x0, x1⟩ := hx c
    have L1 : Le H1 pu (k + 1) := ⟨⟨x, f, e1, hx⟩, by omega⟩
    wtm_at "s"
    refine k_ixL (sl e1) rfl ?_
    wtm_at "s"
    refine k_ixL (sl e1) rfl ?_
    wtm_at "s"
    refine ⟨_, _, rfl, x, k + 1, rfl, rfl, x0, x1, by omega, by omega, fun r r0 r1 => ?_⟩
    wtm_at "s"
    refine k_it (fun c2 => ?_) (fun c2 => ?_)
    · wtm_at "s"
      refine k_ixL (sl e1) rfl ?_
      wtm_at "s"
      refine k_ixL (sl e1) rfl ?_
      wtm_at "s"
      refine ⟨_, _, rfl, x, k + 1 + 500, rfl, rfl, x0, x1, by omega, by omega, fun r2 r20 r21 => ?_⟩
      wtm_at "s"
      refine k_pow ⟨by decide, by decide, by omega⟩ ?_
      wtm_at "s"
      exact q _ _ (Int.emod_nonneg _ (by omega)) (Int.emod_lt_of_pos _ m0) L1 S1
    · wtm_at "s"
      exact q _ _ (Int.emod_nonneg _ (by omega)) (Int.emod_lt_of_pos _ m0) L1 S1
  · wtm_at "s"
    refine k_ixL (sl e1) rfl ?_
    wtm_at "s"
    refine k_ixL (sl e1) rfl ?_
    wtm_at "s"
    refine k_divW (wide_div m0 (b := 201) (by omega) (by decide) (by decide)) ?_
    wtm_at "s"
    refine k_setL e1 (j := 0) rfl ?_
    wtm_at "s"
    exact q _ _ (Int.emod_nonneg _ (by omega)) (Int.emod_lt_of_pos _ m0) ⟨⟨x / m, f, upd_same, fun z => absurd z c⟩, by omega⟩ (same_hid_upd S1 (by simp))
abbrev sp_law_draw (K : PySem.W.Frag) : Sp := fun vs H Q E => ∃ v0 v1, vs = [v0, v1] ∧ pr_law_draw K v0 v1 H Q E
theorem ok_law_draw (T : Txt K mg A) : FnOk P w K mg base CX0 2 A.a_law_draw A.d_law_draw ["_law_left_here", "_law_base"] (sp_law_draw K) := by
  refine T.F_law_draw.ok sc_law_draw (fun vs H Q E h => by obtain ⟨v0, v1, rfl, _⟩ := h; rfl) (fun cdv A0 outer s H vs Q E hr h => ?_)
  obtain ⟨v0, v1, rfl, h⟩ := h
  exact ⟨t_law_draw K, (pss_cons (ps_asg (pe_op op_add (pe_ix ix_list (pv 0) pe_int (fun _ _ => rfl)) pe_int) (pg_sub (pv 0) pe_int set_list))
      (pss_cons (ps_if (pt_cmpR op_eq (pe_ix ix_list (pv 0) pe_int (fun _ _ => rfl)) pe_int (nomark _)) (pss_cons (ps_set (i := 2) sc_law_draw.nd rfl (Or.inl rfl) (pe_call (ok_law_mix T) (hr.mono (by decide)) (by rfl) T.g_law_mix T.F_law_mix.kp T.b_law_mix .nil pass0 (pa_cons (pe_ix ix_list (pv 0) pe_int (fun _ _ => rfl)) (pa_cons (pe_ix ix_list (pv 0) pe_int (fun _ _ => rfl)) pa_nil))))
      (pss_cons (ps_if (pt_cmpR op_gt (pv 1) (pe_op op_pow pe_int pe_int) (nomark _)) (pss_one (ps_ret (pe_op op_mod (pe_op op_mul (pv 2) (pe_op op_add (pe_op op_pow (pe_call (ok_law_mix T) (hr.mono (by decide)) (by rfl) T.g_law_mix T.F_law_mix.kp T.b_law_mix .nil pass0 (pa_cons (pe_ix ix_list (pv 0) pe_int (fun _ _ => rfl)) (pa_cons (pe_op op_add (pe_ix ix_list (pv 0) pe_int (fun _ _ => rfl)) pe_int) pa_nil))) pe_int) pe_int)) (pv 1)))) pss_nil)
      (pss_one (ps_ret (pe_op op_mod (pe_op op_mod (pe_op op_mul (pv 2) (pe_op op_add (pv 2) pe_int)) pe_int) (pv 1)))))) pss_nil)
      (pss_cons (ps_set (i := 3) sc_law_draw.nd rfl (Or.inl rfl) (pe_op op_mod (pe_ix ix_list (pv 0) pe_int (fun _ _ => rfl)) (pv 1)))
      (pss_cons (ps_asg (pe_op op_fdivW (pe_ix ix_list (pv 0) pe_int (fun _ _ => rfl)) (pv 1)) (pg_sub (pv 0) pe_int set_list))
      (pss_one (ps_ret (pv 3))))))), pure_law_draw h⟩
def pr_law_way (K : PySem.W.Frag) (v0 v1 : V) (H : Hp) (Q : VK) (_ : XK) : Prop := ∃ (pu : Addr) (k m : Int), v0 = .ref pu ∧ v1 = .int m ∧ Le H pu k ∧ k < 900000 ∧ 2 ≤ m ∧ m < 2 ^ 100 ∧
  ∀ p a b H', H p = none → p ∉ [pu] → Le H' pu (k + 2) → Same (hid [pu] H) (hid [pu] H') → H' p = some (.tup [.int a, .int b]) → a ≠ b → 0 ≤ a → a < m → 0 ≤ b → b < m → Q (.ref p) H'
def t_law_way (K : PySem.W.Frag) : TS :=
  (tSeq (tAsg (tCall (sp_law_draw K) [] E0 (tCons (tVar 0) (tCons (tVar 1) tNil))) (gName 2))
    (tSeq (tAsg (tCall (sp_law_draw K) [] E0 (tCons (tVar 0) (tCons (tOp xSub (tVar 1) (tC (.int 1))) tNil))) (gName 3))
    (tRet (tTup (tCons (tVar 2) (tCons (tOp xAdd (tVar 3) (tCB rIntOf (tCons (tOp xGe (tVar 3) (tVar 2)) tNil))) tNil))))))
theorem pure_law_way {v0 v1 : V} {H : Hp} {Q : VK} {E : XK} (h : pr_law_way K v0 v1 H Q E) : t_law_way K ⟨fun _ H' => Q .non H', Q, fun _ _ => False, fun _ _ => False⟩ [some v0, some v1, none, none] H := by
  obtain ⟨pu, k, m, rfl, rfl, hL, k1, m0, m1, q⟩ := h
  unfold t_law_way
  wtm_at "s"
  refine ⟨_, _, rfl, pu, k, m, rfl, rfl, hL, by omega, by omega, by omega, fun r H1 r0 r1 L1 S1 => ?_⟩
  wtm_at "s"
  refine ⟨_, _, rfl, pu, k + 1, m - 1, rfl, rfl, L1, by omega, by omega, by omega, fun r2 H2 r20 r21 L2 S2 => ?_⟩
  wtm_at "s"
  refine ⟨sz (by simp), fun p np => ?_⟩
  have np' := L2.fresh np
  have S3 := S1.trans S2
  have e : (if decide (r ≤ r2) = true then (1 : Int) else 0) = if r ≤ r2 then 1 else 0 := by simp
  refine q p r _ _ (fresh_hid S3 np np') np' (show Le _ pu (k + 2) from (show k + 1 + 1 = k + 2 by omega) ▸ L2.upd np') (S3.trans (same_hid_new np)) upd_same ?_ r0 r1 ?_ ?_
  all_goals rw [e]; split <;> omega
abbrev sp_law_way (K : PySem.W.Frag) : Sp := fun vs H Q E => ∃ v0 v1, vs = [v0, v1] ∧ pr_law_way K v0 v1 H Q E
theorem ok_law_way (T : Txt K mg A) : FnOk P w K mg base CX0 3 A.a_law_way A.d_law_way ["_law_left_here", "_law_many"] (sp_law_way K) := by
  refine T.F_law_way.ok sc_law_way (fun vs H Q E h => by obtain ⟨v0, v1, rfl, _⟩ := h; rfl) (fun cdv A0 outer s H vs Q E hr h => ?_)
  obtain ⟨v0, v1, rfl, h⟩ := h
  exact ⟨t_law_way K, (pss_cons (ps_set (i := 2) sc_law_way.nd rfl (Or.inl rfl) (pe_call (ok_law_draw T) (hr.mono (by decide)) (by rfl) T.g_law_draw T.F_law_draw.kp T.b_law_draw .nil pass0 (pa_cons (pv 0) (pa_cons (pv 1) pa_nil))))
      (pss_cons (ps_set (i := 3) sc_law_way.nd rfl (Or.inl rfl) (pe_call (ok_law_draw T) (hr.mono (by decide)) (by rfl) T.g_law_draw T.F_law_draw.kp T.b_law_draw .nil pass0 (pa_cons (pv 0) (pa_cons (pe_op op_sub (pv 1) pe_int) pa_nil))))
      (pss_one (ps_ret (pe_tup (pa_cons (pv 2) (pa_cons (pe_op op_add (pv 3) (pe_callTy q_intB (by rfl) T.z_int (by decide +kernel) (pa_cons (pe_cmpR op_ge (pv 3) (pv 2) (nomark _)) pa_nil))) pa_nil))))))), pure_law_way h⟩


def WayIn (m : Int) (w : Int × Int) : Prop := w.1 ≠ w.2 ∧ 0 ≤ w.1 ∧ w.1 < m ∧ 0 ≤ w.2 ∧ w.2 < m
/-- a list of drawn ways -/
theorem lc_ways {σ : L2.St} {vs : List Nat} {i j l : Nat} {pu : Addr} {m kk lo : Int} {n : Nat} {H1 : Hp} {QD : Addr → Hp → Prop}
    (hi : ∀ x, ((wipe σ vs).set l (some x))[i]? = some (some (.ref pu))) (hj : ∀ x, ((wipe σ vs).set l (some x))[j]? = some (some (.int m))) (hwp : ∀ x, wipe ((wipe σ vs).set l (some x)) vs = wipe σ vs)
    (L : Le H1 pu kk) (hk : kk + 2 * n < 900000) (m0 : 2 ≤ m) (m1 : m < 2 ^ 100) (hn : n ≤ 10000)
    (h : ∀ D ys ws H', H1 D = none → D ∉ [pu] → Le H' pu (kk + 2 * n) → Same (hid [pu] H1) (hid [pu] H') → H' D = some (.lst ys) → DpAll K (hid [pu, D] H') ys (List.map dPair ws) → ws.length = n → (∀ w ∈ ws, WayIn m w) → QD D H') :
    ∀ D, H1 D = none → ∃ W : Nat → Nat → Hp → Prop, (∃ m, W 0 m (upd H1 D (.lst []))) ∧ ∀ t m' H, W t m' H →
      ((Itr lo n).stop t H ∧ QD D H) ∨ ((Itr lo n).go t H ∧ ∃ Nx : Hp → Prop, (∀ H', Nx H' → ∃ m'', m'' < m' ∧ W (t + 1) m'' H') ∧ ∀ x H', (Itr lo n).yld t H x H' → gName l x (wipe σ vs) H' fun σ2 H2 => wipe σ2 vs = wipe σ vs ∧ tYes σ2 H2 fun b H3 =>
        if b = true then tCall (sp_law_way K) [] E0 (tCons (tVar i) (tCons (tVar j) tNil)) σ2 H3 fun y H4 => ∃ acc, H4 D = some (.lst acc) ∧ acc.length < sizeLine ∧ Nx (upd H4 D (.lst (acc ++ [y]))) else Nx H3) := by
  intro D nD
  have nD' := L.fresh nD
  have fr : hid [pu] H1 D = none := by rw [hid_ne nD']; exact nD
  refine lc_range (fun t H => Le H pu (kk + 2 * t) ∧ Same (hid [pu] H1) (hid [pu] H) ∧ ∃ ys ws, H D = some (.lst ys) ∧ DpAll K (hid [pu, D] H) ys (List.map dPair ws) ∧ ws.length = t ∧ ∀ w ∈ ws, WayIn m w) ⟨by simpa using L.upd nD', same_hid_new nD, [], [], upd_same, .nil, rfl, fun _ z => by cases z⟩ ?_ ?_
  · rintro t H ht ⟨Lt, St, ys, ws, hD, hys, hl, hok⟩
    have ly := dpa_len hys
    rw [List.length_map] at ly
    refine ⟨hwp _, ?_⟩
    refine k_yes (iteT (k_call (k_cons (k_var (hi _) (k_cons (k_var (hj _) (k_nil ?_)))))))
    refine ⟨_, _, rfl, pu, kk + 2 * t, m, rfl, rfl, Lt, by omega, m0, m1, fun p a b H' np np' L' S' hp ne a0 a1 b0 b1 => ?_⟩
    have pd : p ≠ D := fun e => by rw [e, hD] at np; cases np
    refine ⟨ys, keeps S' hD nD', szl (by omega), ?_, ?_, ys ++ [.ref p], ws ++ [(a, b)], upd_same, ?_, by simp [hl], fun w hw => ?_⟩
    · have e : kk + 2 * ((t + 1 : Nat) : Int) = kk + 2 * t + 2 := by omega
      rw [e]; exact L'.upd nD'
    · exact same_hid_mut (St.trans S') fr
    · rw [hid_upd (by simp), List.map_append]
      refine dpa_app (dpa_same (hid_more S' (by simp)) hys) (.cons (dp_of_pair (stp ?_)) .nil)
      rw [hid_ne (not_in2 (fun e => np' (by rw [e]; simp)) pd)]; exact hp
    · rcases List.mem_append.mp hw with hw | hw
      · exact hok w hw
      · have e : w = (a, b) := by simpa using hw
        subst e
        exact ⟨ne, a0, a1, b0, b1⟩
  · rintro H ⟨Lt, St, ys, ws, hD, hys, hl, hok⟩
    exact h D ys ws H nD nD' Lt St hD hys hl hok
/-- draw(left, [..][draw(left, n)]) -/
theorem rd_pick {σ : L2.St} {i : Nat} {pu : Addr} {kk : Int} {cs : List Int} {ta : TA} {hi : Int} {H : Hp} {Q : VK} (hv : σ[i]? = some (some (.ref pu))) (L : Le H pu kk) (hk : kk < 900000)
    (hta : ∀ (H : Hp) (R : List V → Hp → Prop), R (cs.map V.int) H → ta σ H R) (hc : cs.length ≤ 100) (c0 : 0 < cs.length) (hb : ∀ c ∈ cs, 1 ≤ c ∧ c ≤ hi) (hh : hi < 2 ^ 100)
    (q : ∀ d H', 0 ≤ d → d < hi → Le H' pu (kk + 2) → Same (hid [pu] H) (hid [pu] H') → Q (.int d) H') :
    tCall (sp_law_draw K) [] E0 (tCons (tVar i) (tCons (tOp (rIxL K) (tLst ta) (tCall (sp_law_draw K) [] E0 (tCons (tVar i) (tCons (tC (.int cs.length)) tNil)))) tNil)) σ H Q := by
  refine k_call (k_cons (k_var hv (k_cons (k_op (k_lst (hta _ _ ⟨sz (by rw [List.length_map]; omega), fun dl ndl => ?_⟩))))))
  refine k_call (k_cons (k_var hv (k_cons (k_c (k_nil ?_)))))
  have ndl' := L.fresh ndl
  refine ⟨_, _, rfl, pu, kk, cs.length, rfl, rfl, L.upd ndl', by omega, by omega, by omega, fun r H2 r0 r1 L2 S2 => ?_⟩
  refine k_ixI (sl (keeps S2 upd_same ndl')) r0 r1 ?_
  have hm := hb _ (getD_memI r0 r1)
  refine k_nil ?_
  refine ⟨_, _, rfl, pu, kk + 1, _, rfl, rfl, L2, by omega, by omega, by omega, fun d H3 d0 d1 L3 S3 => ?_⟩
  refine q d H3 d0 (by omega) ?_ ((same_hid_new ndl).trans (S2.trans S3))
  rw [show kk + 2 = kk + 1 + 1 by omega]; exact L3
def pr_law_line (K : PySem.W.Frag) (v0 : V) (H : Hp) (Q : VK) (_ : XK) : Prop := ∃ (pu : Addr) (k : Int), v0 = .ref pu ∧ Le H pu k ∧ k < 900000 ∧
  ∀ p n H', H p = none → p ∉ [pu] → Le H' pu (k + 2) → Same (hid [pu] H) (hid [pu] H') → hid [pu] H' p = some (.tup [.str (Str.ofString "line"), .int n]) → 2 ≤ n → n ≤ 60 → Q (.ref p) H'
def t_law_line (K : PySem.W.Frag) : TS :=
  (tRet (tTup (tCons (tC (.str (Str.ofString "line"))) (tCons (tOp xAdd (tC (.int 2)) (tCall (sp_law_draw K) [] E0 (tCons (tVar 0) (tCons (tOp (rIxL K) (tLst (tCons (tC (.int 5)) (tCons (tC (.int 12)) (tCons (tC (.int 59)) tNil)))) (tCall (sp_law_draw K) [] E0 (tCons (tVar 0) (tCons (tC (.int 3)) tNil)))) tNil)))) tNil))))
theorem pure_law_line {v0 : V} {H : Hp} {Q : VK} {E : XK} (h : pr_law_line K v0 H Q E) : t_law_line K ⟨fun _ H' => Q .non H', Q, fun _ _ => False, fun _ _ => False⟩ [some v0] H := by
  obtain ⟨pu, k, rfl, L, hk, q⟩ := h
  unfold t_law_line
  refine k_ret (k_tup (k_cons (k_c (k_cons (k_op (k_c ?_))))))
  refine rd_pick (cs := [5, 12, 59]) (hi := 59) rfl L (by omega) (fun H R h => by wtm_at "s"; exact h) (by decide) (by decide) (by decide) (by decide) (fun d H1 d0 d1 L1 S1 => ?_)
  wtm_at "s"
  exact ⟨sz (by simp), fun p np => q p _ _ (fresh_hid S1 np (L1.fresh np)) (L1.fresh np) (L1.same (same_new np)) (S1.trans (hid_mono (same_new np))) (L1.at np upd_same) (by omega) (by omega)⟩
abbrev sp_law_line (K : PySem.W.Frag) : Sp := fun vs H Q E => ∃ v0, vs = [v0] ∧ pr_law_line K v0 H Q E
theorem ok_law_line (T : Txt K mg A) : FnOk P w K mg base CX0 3 A.a_law_line A.d_law_line ["_law_left_here"] (sp_law_line K) := by
  refine T.F_law_line.ok sc_law_line (fun vs H Q E h => by obtain ⟨v0, rfl, _⟩ := h; rfl) (fun cdv A0 outer s H vs Q E hr h => ?_)
  obtain ⟨v0, rfl, h⟩ := h
  exact ⟨t_law_line K, (pss_one (ps_ret (pe_tup (pa_cons pe_str (pa_cons (pe_op op_add pe_int (pe_call (ok_law_draw T) (hr.mono (by decide)) (by rfl) T.g_law_draw T.F_law_draw.kp T.b_law_draw .nil pass0 (pa_cons (pv 0) (pa_cons (pe_ix ix_list (pe_lst (pa_cons pe_int (pa_cons pe_int (pa_cons pe_int pa_nil)))) (pe_call (ok_law_draw T) (hr.mono (by decide)) (by rfl) T.g_law_draw T.F_law_draw.kp T.b_law_draw .nil pass0 (pa_cons (pv 0) (pa_cons pe_int pa_nil))) (fun _ _ => rfl)) pa_nil)))) pa_nil))))), pure_law_line h⟩
def pr_law_short_way (K : PySem.W.Frag) (v0 v1 : V) (H : Hp) (Q : VK) (_ : XK) : Prop := ∃ (pu : Addr) (k m : Int), v0 = .ref pu ∧ v1 = .int m ∧ Le H pu k ∧ k < 900000 ∧ 2 ≤ m ∧ m < 2 ^ 100 ∧
  ∀ p a b H', H p = none → p ∉ [pu] → Le H' pu (k + 3) → Same (hid [pu] H) (hid [pu] H') → H' p = some (.tup [.int a, .int b]) → a ≠ b → 0 ≤ a → a < m → 0 ≤ b → b < m → Q (.ref p) H'
def t_law_short_way (K : PySem.W.Frag) : TS :=
  (tSeq (tAsg (tCall (sp_law_draw K) [] E0 (tCons (tVar 0) (tCons (tOp xSub (tVar 1) (tC (.int 1))) tNil))) (gName 2))
    (tSeq (tAsg (tOp xAdd (tOp xAdd (tVar 2) (tC (.int 1))) (tCall (sp_law_draw K) [] E0 (tCons (tVar 0) (tCons (tCB rMin2 (tCons (tC (.int 4)) (tCons (tOp xSub (tOp xSub (tVar 1) (tC (.int 1))) (tVar 2)) tNil))) tNil)))) (gName 3))
    (tRet (tOp (rIxL K) (tLst (tCons (tTup (tCons (tVar 2) (tCons (tVar 3) tNil))) (tCons (tTup (tCons (tVar 3) (tCons (tVar 2) tNil))) tNil))) (tCall (sp_law_draw K) [] E0 (tCons (tVar 0) (tCons (tC (.int 2)) tNil)))))))
theorem pure_law_short_way {v0 v1 : V} {H : Hp} {Q : VK} {E : XK} (h : pr_law_short_way K v0 v1 H Q E) : t_law_short_way K ⟨fun _ H' => Q .non H', Q, fun _ _ => False, fun _ _ => False⟩ [some v0, some v1, none, none] H := by
  obtain ⟨pu, k, m, rfl, rfl, L, hk, m0, m1, q⟩ := h
  unfold t_law_short_way
  wtm_at "s"
  refine ⟨_, _, rfl, pu, k, m - 1, rfl, rfl, L, by omega, by omega, by omega, fun a H1 a0 a1 L1 S1 => ?_⟩
  wtm_at "s"
  refine ⟨_, _, rfl, pu, k + 1, _, rfl, rfl, L1, by omega, by split <;> omega, by split <;> omega, fun c H2 c0 c1 L2 S2 => ?_⟩
  have c2 : c < m - 1 - a := by split at c1 <;> omega
  clear c1
  wtm_at "s"
  refine kTp L2 (by simp) (fun t1 H3 n1 s3 e1 => ?_)
  wtm_at "s"
  refine kTp (L2.same s3) (by simp) (fun t2 H4 n2 s4 e2 => ?_)
  wtm_at "s"
  refine kLp ((L2.same s3).same s4) (by simp) (fun t3 H5 n3 s5 e3 => ?_)
  wtm_at "s"
  refine ⟨_, _, rfl, pu, k + 1 + 1, 2, rfl, rfl, ((L2.same s3).same s4).same s5, by omega, by decide, by decide, fun r H6 r0 r1 L6 S6 => ?_⟩
  have L6' : Le H6 pu (k + 3) := by rw [show k + 3 = k + 1 + 1 + 1 by omega]; exact L6
  have S : Same (hid [pu] H) (hid [pu] H6) := by wtm_at "sm"
  have S2' : Same (hid [pu] H) (hid [pu] H2) := S1.trans S2
  have S3' : Same (hid [pu] H) (hid [pu] H3) := S2'.trans (hid_mono s3)
  have g1 : H6 t1 = some (.tup [.int a, .int (a + 1 + c)]) := at_same e1 (((hid_mono s4).trans (hid_mono s5)).trans (S6.trans (hid_same _ _)))
  have g2 : H6 t2 = some (.tup [.int (a + 1 + c), .int a]) := at_same e2 ((hid_mono s5).trans (S6.trans (hid_same _ _)))
  have g3 : H6 t3 = some (.lst [.ref t1, .ref t2]) := at_same e3 (S6.trans (hid_same _ _))
  have hc : r = 0 ∨ r = 1 := by omega
  rcases hc with rfl | rfl
  · refine k_ixL (sl g3) (v := .ref t1) rfl ?_
    exact q t1 _ _ H6 (fresh_hid S2' n1 (L2.fresh n1)) (L2.fresh n1) L6' S g1 (by omega) (by omega) (by omega) (by omega) (by omega)
  · refine k_ixL (sl g3) (v := .ref t2) rfl ?_
    exact q t2 _ _ H6 (fresh_hid S3' n2 ((L2.same s3).fresh n2)) ((L2.same s3).fresh n2) L6' S g2 (by omega) (by omega) (by omega) (by omega) (by omega)
abbrev sp_law_short_way (K : PySem.W.Frag) : Sp := fun vs H Q E => ∃ v0 v1, vs = [v0, v1] ∧ pr_law_short_way K v0 v1 H Q E
theorem ok_law_short_way (T : Txt K mg A) : FnOk P w K mg base CX0 3 A.a_law_short_way A.d_law_short_way ["_law_left_here", "_law_many"] (sp_law_short_way K) := by
  refine T.F_law_short_way.ok sc_law_short_way (fun vs H Q E h => by obtain ⟨v0, v1, rfl, _⟩ := h; rfl) (fun cdv A0 outer s H vs Q E hr h => ?_)
  obtain ⟨v0, v1, rfl, h⟩ := h
  exact ⟨t_law_short_way K, (pss_cons (ps_set (i := 2) sc_law_short_way.nd rfl (Or.inl rfl) (pe_call (ok_law_draw T) (hr.mono (by decide)) (by rfl) T.g_law_draw T.F_law_draw.kp T.b_law_draw .nil pass0 (pa_cons (pv 0) (pa_cons (pe_op op_sub (pv 1) pe_int) pa_nil))))
      (pss_cons (ps_set (i := 3) sc_law_short_way.nd rfl (Or.inl rfl) (pe_op op_add (pe_op op_add (pv 2) pe_int) (pe_call (ok_law_draw T) (hr.mono (by decide)) (by rfl) T.g_law_draw T.F_law_draw.kp T.b_law_draw .nil pass0 (pa_cons (pv 0) (pa_cons (pe_callB (q_min2 (by rfl)) (by rfl) T.z_min (by decide +kernel) (pa_cons pe_int (pa_cons (pe_op op_sub (pe_op op_sub (pv 1) pe_int) (pv 2)) pa_nil))) pa_nil)))))
      (pss_one (ps_ret (pe_ix ix_list (pe_lst (pa_cons (pe_tup (pa_cons (pv 2) (pa_cons (pv 3) pa_nil))) (pa_cons (pe_tup (pa_cons (pv 3) (pa_cons (pv 2) pa_nil))) pa_nil))) (pe_call (ok_law_draw T) (hr.mono (by decide)) (by rfl) T.g_law_draw T.F_law_draw.kp T.b_law_draw .nil pass0 (pa_cons (pv 0) (pa_cons pe_int pa_nil))) (fun _ _ => rfl)))))), pure_law_short_way h⟩
def pr_law_ways (K : PySem.W.Frag) (v0 v1 : V) (H : Hp) (Q : VK) (_ : XK) : Prop := ∃ (pu : Addr) (k m : Int), v0 = .ref pu ∧ v1 = .int m ∧ Le H pu k ∧ k < 800000 ∧ 2 ≤ m ∧ m < 2 ^ 100 ∧
  ∀ D ys ws kk H', H D = none → D ∉ [pu] → Le H' pu kk → kk ≤ k + 200 → Same (hid [pu] H) (hid [pu] H') → H' D = some (.lst ys) → DpAll K (hid [pu, D] H') ys (List.map dPair ws) → ws.length ≤ 40 → (∀ w ∈ ws, WayIn m w) → Q (.ref D) H'
def t_law_ways (K : PySem.W.Frag) : TS :=
  (tSeq (tAsg (tLst tNil) (gName 2))
    (tSeq (tFor (iRng1 (tCons (tCall (sp_law_draw K) [] E0 (tCons (tVar 0) (tCons (tOp (rIxL K) (tLst (tCons (tC (.int 6)) (tCons (tC (.int 16)) (tCons (tC (.int 41)) tNil)))) (tCall (sp_law_draw K) [] E0 (tCons (tVar 0) (tCons (tC (.int 3)) tNil)))) tNil))) tNil)) (gName 3)
      (tIfS (tTest (tOp rEq (tCall (sp_law_draw K) [] E0 (tCons (tVar 0) (tCons (tC (.int 2)) tNil))) (tC (.int 0)))) (tDrop (tBM K "list" rAppend (tVar 2) (tCons (tCall (sp_law_way K) [] E0 (tCons (tVar 0) (tCons (tVar 1) tNil))) tNil))) (tDrop (tBM K "list" rAppend (tVar 2) (tCons (tCall (sp_law_short_way K) [] E0 (tCons (tVar 0) (tCons (tVar 1) tNil))) tNil)))))
    (tRet (tVar 2))))
theorem pure_law_ways {v0 v1 : V} {H : Hp} {Q : VK} {E : XK} (h : pr_law_ways K v0 v1 H Q E) : t_law_ways K ⟨fun _ H' => Q .non H', Q, fun _ _ => False, fun _ _ => False⟩ [some v0, some v1, none, none] H := by
  obtain ⟨pu, k, m, rfl, rfl, L, hk, m0, m1, q⟩ := h
  unfold t_law_ways
  wtm_at "s"
  refine kL (by simp) (fun D H1 nD s1 e1 => ?_)
  have nD' := L.fresh nD
  have L1 := L.same s1
  have fr : hid [pu] H D = none := by rw [hid_ne nD']; exact nD
  refine k_gname (k_seq (k_for (k_iRng1 (k_cons ?_))))
  refine rd_pick (cs := [6, 16, 41]) (hi := 41) rfl L1 (by omega) (fun H R h => by wtm_at "s"; exact h) (by decide) (by decide) (by decide) (by decide) (fun c H2 c0 c1 L2 S2 => ?_)
  have e2 := keeps S2 e1 nD'
  have S02 : Same (hid [pu] H) (hid [pu] H2) := (hid_mono s1).trans S2
  wtm_at "s"
  refine forR (fun i σ' H' => ∃ ys ws kk k3, σ' = [some (.ref pu), some (.int m), some (.ref D), k3] ∧ Le H' pu kk ∧ kk ≤ k + 2 + 4 * i ∧ Same (hid [pu] H) (hid [pu] H') ∧ H' D = some (.lst ys) ∧ DpAll K (hid [pu, D] H') ys (List.map dPair ws) ∧ ws.length = i ∧ ∀ w ∈ ws, WayIn m w)
    ⟨[], [], _, _, rfl, L2, by omega, S02, e2, .nil, rfl, fun _ z => by cases z⟩ ?_ ?_
  · rintro i σ' H3 hi ⟨ys, ws, kk, k3, rfl, L3, hkk, S3, hD, hys, hl, hok⟩
    have ly := dpa_len hys
    rw [List.length_map] at ly
    have fin : ∀ p x y kk' H4, H3 p = none → p ∉ [pu] → Le H4 pu kk' → kk' ≤ kk + 4 → Same (hid [pu] H3) (hid [pu] H4) → H4 p = some (.tup [.int x, .int y]) → WayIn m (x, y) →
        (Le (upd H4 D (.lst (ys ++ [.ref p]))) pu kk' ∧ kk' ≤ k + 2 + 4 * ((i + 1 : Nat) : Int) ∧ Same (hid [pu] H) (hid [pu] (upd H4 D (.lst (ys ++ [.ref p])))) ∧ upd H4 D (.lst (ys ++ [.ref p])) D = some (.lst (ys ++ [.ref p])) ∧ DpAll K (hid [pu, D] (upd H4 D (.lst (ys ++ [.ref p])))) (ys ++ [.ref p]) (List.map dPair (ws ++ [(x, y)])) ∧ (ws ++ [(x, y)]).length = i + 1 ∧ ∀ w ∈ ws ++ [(x, y)], WayIn m w) := by
      intro p x y kk' H4 np np' L4 hk4 S4 ep hw
      have pd : p ≠ D := fun e => by rw [e, hD] at np; cases np
      refine ⟨L4.upd nD', by omega, same_hid_mut (S3.trans S4) fr, upd_same, ?_, by simp [hl], fun w hw' => ?_⟩
      · rw [hid_upd (by simp), List.map_append]
        refine dpa_app (dpa_same (hid_more S4 (by simp)) hys) (.cons (dp_of_pair (stp ?_)) .nil)
        rw [hid_ne (not_in2 (fun e => np' (by rw [e]; simp)) pd)]; exact ep
      · rcases List.mem_append.mp hw' with h | h
        · exact hok w h
        · have e : w = (x, y) := by simpa using h
          rw [e]; exact hw
    wtm_at "s"
    refine ⟨_, _, rfl, pu, kk, 2, rfl, rfl, L3, by omega, by decide, by decide, fun r H4 r0 r1 L4 S4 => ?_⟩
    wtm_at "s"
    refine k_it (fun c2 => ?_) (fun c2 => ?_)
    · wtm_at "s"
      have hD4 := keeps S4 hD nD'
      refine k_tyL (sl hD4) ?_
      wtm_at "s"
      refine ⟨_, _, rfl, pu, kk + 1, m, rfl, rfl, L4, by omega, m0, m1, fun p x y H5 np np' L5 S5 ep w1 w2 w3 w4 w5 => ?_⟩
      wtm_at "s"
      refine k_append (keeps S5 hD4 nD') (by omega) ?_
      exact ⟨_, _, _, _, rfl, fin p x y _ H5 (fresh_hid S4 np np') np' L5 (by omega) (S4.trans S5) ep ⟨w1, w2, w3, w4, w5⟩⟩
    · wtm_at "s"
      have hD4 := keeps S4 hD nD'
      refine k_tyL (sl hD4) ?_
      wtm_at "s"
      refine ⟨_, _, rfl, pu, kk + 1, m, rfl, rfl, L4, by omega, m0, m1, fun p x y H5 np np' L5 S5 ep w1 w2 w3 w4 w5 => ?_⟩
      wtm_at "s"
      refine k_append (keeps S5 hD4 nD') (by omega) ?_
      exact ⟨_, _, _, _, rfl, fin p x y _ H5 (fresh_hid S4 np np') np' L5 (by omega) (S4.trans S5) ep ⟨w1, w2, w3, w4, w5⟩⟩
  · rintro σ' H3 ⟨ys, ws, kk, k3, rfl, L3, hkk, S3, hD, hys, hl, hok⟩
    wtm_at "s"
    exact q D ys ws kk H3 nD nD' L3 (by omega) S3 hD hys (by omega) hok
abbrev sp_law_ways (K : PySem.W.Frag) : Sp := fun vs H Q E => ∃ v0 v1, vs = [v0, v1] ∧ pr_law_ways K v0 v1 H Q E
theorem ok_law_ways (T : Txt K mg A) : FnOk P w K mg base CX0 4 A.a_law_ways A.d_law_ways ["_law_left_here", "_law_many"] (sp_law_ways K) := by
  refine T.F_law_ways.ok sc_law_ways (fun vs H Q E h => by obtain ⟨v0, v1, rfl, _⟩ := h; rfl) (fun cdv A0 outer s H vs Q E hr h => ?_)
  obtain ⟨v0, v1, rfl, h⟩ := h
  exact ⟨t_law_ways K, (pss_cons (ps_set (i := 2) sc_law_ways.nd rfl (Or.inl rfl) (pe_lst pa_nil))
      (pss_cons (ps_for PassesOwn.never rfl (pi_range1 (by rfl) T.z_range (pa_cons (pe_call (ok_law_draw T) (hr.mono (by decide)) (by rfl) T.g_law_draw T.F_law_draw.kp T.b_law_draw .nil pass0 (pa_cons (pv 0) (pa_cons (pe_ix ix_list (pe_lst (pa_cons pe_int (pa_cons pe_int (pa_cons pe_int pa_nil)))) (pe_call (ok_law_draw T) (hr.mono (by decide)) (by rfl) T.g_law_draw T.F_law_draw.kp T.b_law_draw .nil pass0 (pa_cons (pv 0) (pa_cons pe_int pa_nil))) (fun _ _ => rfl)) pa_nil))) pa_nil)) (pg_name (i := 3) sc_law_ways.nd rfl (Or.inl rfl))
      (pss_one (ps_if (pt_cmpR op_eq (pe_call (ok_law_draw T) (hr.mono (by decide)) (by rfl) T.g_law_draw T.F_law_draw.kp T.b_law_draw .nil pass0 (pa_cons (pv 0) (pa_cons pe_int pa_nil))) pe_int (nomark _)) (pss_one (ps_expr (pe_bm PySem.F.plainAttrs_list PySem.F.slot_list_append PySem.F.type_list_append mt_append (pv 2) (pa_cons (pe_call (ok_law_way T) (hr.mono (by decide)) (by rfl) T.g_law_way T.F_law_way.kp T.b_law_way .nil pass0 (pa_cons (pv 0) (pa_cons (pv 1) pa_nil))) pa_nil)))) (pss_one (ps_expr (pe_bm PySem.F.plainAttrs_list PySem.F.slot_list_append PySem.F.type_list_append mt_append (pv 2) (pa_cons (pe_call (ok_law_short_way T) (hr.mono (by decide)) (by rfl) T.g_law_short_way T.F_law_short_way.kp T.b_law_short_way .nil pass0 (pa_cons (pv 0) (pa_cons (pv 1) pa_nil))) pa_nil)))))))
      (pss_one (ps_ret (pv 2))))), pure_law_ways h⟩


def lvHues (i : Nat) : List Int := if i = 1 then [0] else [3 * (i : Int) - 5, 3 * (i : Int) - 4, 3 * (i : Int) - 3]
def pr_hues_of (K : PySem.W.Frag) (v0 : V) (H : Hp) (Q : VK) (_ : XK) : Prop := ∃ i : Nat, v0 = .int i ∧ 1 ≤ i ∧ ∀ p H', H p = none → Same H H' → H' p = some (.lst (List.map V.int (lvHues i))) → Q (.ref p) H'
def t_hues_of (K : PySem.W.Frag) : TS :=
  (tSeq (tIfS (tTest (tOp rEq (tVar 0) (tC (.int 1)))) (tRet (tLst (tCons (tC (.int 0)) tNil))) tNext)
    (tRet (tLst (tCons (tOp xSub (tOp xMul (tC (.int 3)) (tVar 0)) (tC (.int 5))) (tCons (tOp xSub (tOp xMul (tC (.int 3)) (tVar 0)) (tC (.int 4))) (tCons (tOp xSub (tOp xMul (tC (.int 3)) (tVar 0)) (tC (.int 3))) tNil))))))
theorem pure_hues_of {v0 : V} {H : Hp} {Q : VK} {E : XK} (h : pr_hues_of K v0 H Q E) : t_hues_of K ⟨fun _ H' => Q .non H', Q, fun _ _ => False, fun _ _ => False⟩ [some v0] H := by
  obtain ⟨i, rfl, i1, q⟩ := h
  unfold t_hues_of
  wtm_at "s"
  refine k_it (fun c => ?_) (fun c => ?_)
  · wtm_at "s"
    refine kL (by simp) (fun p H1 np s1 e1 => ?_)
    refine q p H1 np s1 ?_
    rw [e1]; unfold lvHues; rw [if_pos (by omega)]; rfl
  · wtm_at "s"
    refine kL (by simp) (fun p H1 np s1 e1 => ?_)
    refine q p H1 np s1 ?_
    rw [e1]; unfold lvHues; rw [if_neg (by omega)]; rfl
abbrev sp_hues_of (K : PySem.W.Frag) : Sp := fun vs H Q E => ∃ v0, vs = [v0] ∧ pr_hues_of K v0 H Q E
theorem ok_hues_of (T : Txt K mg A) : FnOk P w K mg base CX0 1 A.a_hues_of A.d_hues_of ["level"] (sp_hues_of K) := by
  refine T.F_hues_of.ok sc_hues_of (fun vs H Q E h => by obtain ⟨v0, rfl, _⟩ := h; rfl) (fun cdv A0 outer s H vs Q E hr h => ?_)
  obtain ⟨v0, rfl, h⟩ := h
  exact ⟨t_hues_of K, (pss_cons (ps_if (pt_cmpR op_eq (pv 0) pe_int (nomark _)) (pss_one (ps_ret (pe_lst (pa_cons pe_int pa_nil)))) pss_nil)
      (pss_one (ps_ret (pe_lst (pa_cons (pe_op op_sub (pe_op op_mul pe_int (pv 0)) pe_int) (pa_cons (pe_op op_sub (pe_op op_mul pe_int (pv 0)) pe_int) (pa_cons (pe_op op_sub (pe_op op_mul pe_int (pv 0)) pe_int) pa_nil))))))), pure_hues_of h⟩
/-- a row of ties lo .. hi -/
def tiesI (w : Int × Int) : List Int := (List.range (w.2 - w.1 + 1).toNat).map fun k : Nat => w.1 + (k : Int)
theorem tiesI_len (w : Int × Int) : (tiesI w).length = (w.2 - w.1 + 1).toNat := by unfold tiesI; simp
theorem tiesI_get {w : Int × Int} {k : Nat} (h : (k : Int) ≤ w.2 - w.1) : (tiesI w)[k]? = some (w.1 + (k : Int)) := by
  unfold tiesI
  rw [List.getElem?_map, List.getElem?_range (by omega)]; rfl
theorem tiesI_mem {w : Int × Int} {t : Int} : t ∈ tiesI w ↔ w.1 ≤ t ∧ t ≤ w.2 := by
  unfold tiesI
  rw [List.mem_map]
  constructor
  · rintro ⟨k, hk, rfl⟩
    have := List.mem_range.mp hk
    omega
  · rintro ⟨h1, h2⟩
    exact ⟨(t - w.1).toNat, List.mem_range.mpr (by omega), by omega⟩
theorem at_first {w : Int × Int} (h : w.1 ≤ w.2) : atI ((tiesI w).map V.int) 0 = some (.int w.1) := by
  have := at_int (ns := tiesI w) (i := 0) (by decide) (by rw [tiesI_len]; omega)
  rw [this]
  have g : (tiesI w)[(0 : Nat)]? = some (w.1 + ((0 : Nat) : Int)) := tiesI_get (by omega)
  show some (V.int ((tiesI w).getD 0 0)) = _
  rw [List.getD_eq_getElem?_getD, g]; simp
theorem at_final {w : Int × Int} (h : w.1 ≤ w.2) : atI ((tiesI w).map V.int) (-1) = some (.int w.2) := by
  have g : (tiesI w)[(w.2 - w.1).toNat]? = some (w.1 + ((w.2 - w.1).toNat : Int)) := tiesI_get (by omega)
  have e : w.1 + ((w.2 - w.1).toNat : Int) = w.2 := by omega
  rw [e] at g
  unfold atI
  rw [ixN_last (by rw [List.length_map, tiesI_len]; omega)]
  show ((tiesI w).map V.int)[((tiesI w).map V.int).length - 1]? = _
  rw [List.length_map, tiesI_len, show (w.2 - w.1 + 1).toNat - 1 = (w.2 - w.1).toNat by omega, List.getElem?_map, g]; rfl
def pr_meet (K : PySem.W.Frag) (v0 v1 : V) (H : Hp) (Q : VK) (_ : XK) : Prop := ∃ (p q : Addr) (w v : Int × Int), v0 = .ref p ∧ v1 = .ref q ∧ SqL K H p ((tiesI w).map V.int) ∧ SqL K H q ((tiesI v).map V.int) ∧ w.1 ≤ w.2 ∧ v.1 ≤ v.2 ∧ Q (.bl (decide (max w.1 v.1 ≤ min w.2 v.2))) H
def t_meet (K : PySem.W.Frag) : TS :=
  (tRet (tOp xLe (tCB rMax2 (tCons (tOp (rIxL K) (tVar 0) (tC (.int 0))) (tCons (tOp (rIxL K) (tVar 1) (tC (.int 0))) tNil))) (tCB rMin2 (tCons (tOp (rIxL K) (tVar 0) (tUn xNeg (tC (.int 1)))) (tCons (tOp (rIxL K) (tVar 1) (tUn xNeg (tC (.int 1)))) tNil)))))
theorem pure_meet {v0 v1 : V} {H : Hp} {Q : VK} {E : XK} (h : pr_meet K v0 v1 H Q E) : t_meet K ⟨fun _ H' => Q .non H', Q, fun _ _ => False, fun _ _ => False⟩ [some v0, some v1] H := by
  obtain ⟨p, q, w, v, rfl, rfl, hp, hq, hw, hv, k⟩ := h
  unfold t_meet
  wtm_at "s"
  refine k_ixL hp (at_first hw) ?_
  wtm_at "s"
  refine k_ixL hq (at_first hv) ?_
  wtm_at "s"
  refine k_ixL hp (at_final hw) ?_
  wtm_at "s"
  refine k_ixL hq (at_final hv) ?_
  wtm_at "s"
  have e : decide ((if v.1 > w.1 then v.1 else w.1) ≤ (if v.2 < w.2 then v.2 else w.2)) = decide (max w.1 v.1 ≤ min w.2 v.2) := by
    refine decide_eq_decide.mpr ?_
    split <;> split <;> omega
  rw [e]
  exact k
abbrev sp_meet (K : PySem.W.Frag) : Sp := fun vs H Q E => ∃ v0 v1, vs = [v0, v1] ∧ pr_meet K v0 v1 H Q E
theorem ok_meet (T : Txt K mg A) : FnOk P w K mg base CX0 1 A.a_meet A.d_meet ["one", "other"] (sp_meet K) := by
  refine T.F_meet.ok sc_meet (fun vs H Q E h => by obtain ⟨v0, v1, rfl, _⟩ := h; rfl) (fun cdv A0 outer s H vs Q E hr h => ?_)
  obtain ⟨v0, v1, rfl, h⟩ := h
  exact ⟨t_meet K, (pss_one (ps_ret (pe_cmpR op_le (pe_callB (q_max2 (by rfl)) (by rfl) T.z_max (by decide +kernel) (pa_cons (pe_ix ix_list (pv 0) pe_int (fun _ _ => rfl)) (pa_cons (pe_ix ix_list (pv 1) pe_int (fun _ _ => rfl)) pa_nil))) (pe_callB (q_min2 (by rfl)) (by rfl) T.z_min (by decide +kernel) (pa_cons (pe_ix ix_list (pv 0) (pe_un un_neg pe_int) (fun _ _ => rfl)) (pa_cons (pe_ix ix_list (pv 1) (pe_un un_neg pe_int) (fun _ _ => rfl)) pa_nil))) (nomark _)))), pure_meet h⟩


/-- the fields of a Giver -/
abbrev gvF (nt cm ln gv lv ow up : Addr) : List (Str × V) := [(Str.ofString "net", .ref nt), (Str.ofString "come", .ref cm), (Str.ofString "lain", .ref ln), (Str.ofString "given", .ref gv), (Str.ofString "level", .ref lv), (Str.ofString "own", .ref ow), (Str.ofString "upto", .ref up)]
/-- a field is written: what is new stays, the instance alone is changed -/
theorem fld_step {H H' : Hp} {a p : Addr} {o x0 : HO} (x : HO) (ea : H a = some x0) (np : H p = none) (s : Same H H') (e : H' p = some o) : Same (hid [a] H) (hid [a] (upd H' a x)) ∧ hid [a] (upd H' a x) p = some o ∧ upd H' a x a = some x := by
  have pa : p ≠ a := fun z => by rw [z, ea] at np; cases np
  refine ⟨by rw [hid_upd (by simp)]; exact hid_mono s, ?_, upd_same⟩
  rw [hid_upd (by simp), hid_ne (by simpa using pa)]; exact e
theorem rep0g (n : Nat) : (List.replicate n [V.int 0]).flatten = List.map V.int (List.replicate n 0) := by
  induction n with
  | zero => rfl
  | succ n ih => rw [List.replicate_succ, List.flatten_cons, ih]; rfl
theorem putF_len (f : Str) (v : V) : ∀ fs : List (Str × V), (putF f v fs).length ≤ fs.length + 1
  | [] => Nat.le_refl _
  | (g, x) :: r => by
    unfold putF
    split
    · simp
    · have := putF_len f v r
      simp only [List.length_cons]
      omega
theorem free_back {H G : Hp} {a p : Addr} {x : HO} (S : Same (hid [a] H) (hid [a] G)) (ea : G a = some x) (n : G p = none) : H p = none := by
  have pa : p ∉ [a] := by
    intro z
    rw [List.mem_singleton.mp z, ea] at n
    cases n
  have := S.free (show hid [a] G p = none by rw [hid_ne pa]; exact n)
  rwa [hid_ne pa] at this
theorem ne_new {H : Hp} {p q : Addr} {o : HO} (hp : H p = some o) (hq : H q = none) : p ≠ q := fun e => by rw [e, hq] at hp; cases hp
def pr_Giver_init (K : PySem.W.Frag) (A : Ad) (v0 v1 : V) (H : Hp) (Q : VK) (_ : XK) : Prop := ∃ (a dx : Addr) (n : Int), v0 = .ref a ∧ H a = some (.ins A.c_Giver dx []) ∧ Dp K (hid [a] H) v1 (Net.line n).d ∧ (Net.line n).ok ∧
  ∀ (nt cm ln gv lv ow up : Addr) (rs : List Addr) (H' : Hp), Same (hid [a] H) (hid [a] H') → H' a = some (.ins A.c_Giver dx (gvF nt cm ln gv lv ow up)) → H' nt = some (.tup [.str (Str.ofString "line"), .int n]) → H' cm = some (.lst []) → H' ln = some (.lst []) → H' gv = some (.lst []) → H' lv = some (.lst []) → H' ow = some (.lst []) →
    H' up = some (.lst (rs.map V.ref)) → rs.length = (n - 1).toNat → (∀ (j : Nat) r, rs[j]? = some r → H' r = some (.lst (List.map V.int (List.replicate 42 0)))) →
    (up :: (rs ++ [ow, lv, gv, ln, cm, nt, a])).Nodup → (∀ r ∈ up :: (rs ++ [ow, lv, gv, ln, cm, nt]), H r = none) → Q .non H'
def t_Giver_init (K : PySem.W.Frag) (A : Ad) : TS :=
  (tSeq (tDrop (tCall (sp_must_be_kind K) [] E0 (tCons (tVar 1) (tCons (tC (.str (Str.ofString "line"))) tNil))))
    (tSeq (sFld K (tVar 0) (tTup (tCons (tOp (rIxT K) (tVar 1) (tC (.int 0))) (tCons (tOp (rIxT K) (tVar 1) (tC (.int 1))) tNil))) "net")
    (tSeq (sFld K (tVar 0) (tLst tNil) "come")
    (tSeq (sFld K (tVar 0) (tLst tNil) "lain")
    (tSeq (sFld K (tVar 0) (tLst tNil) "given")
    (tSeq (sFld K (tVar 0) (tLst tNil) "level")
    (tSeq (sFld K (tVar 0) (tLst tNil) "own")
    (sFld K (tVar 0) (tLc (iRng1 (tCons (tOp xSub (tOp (rIxT K) (tVar 1) (tC (.int 1))) (tC (.int 1))) tNil)) (gName 2) tYes (tOp rRep (tLst (tCons (tC (.int 0)) tNil)) (tOp xAdd (tC (.int 40)) (tC (.int 2)))) [2]) "upto"))))))))
theorem pure_Giver_init (T : Txt K mg A) {v0 v1 : V} {H : Hp} {Q : VK} {E : XK} (h : pr_Giver_init K A v0 v1 H Q E) : t_Giver_init K A ⟨fun _ H' => Q .non H', Q, fun _ _ => False, fun _ _ => False⟩ [some v0, some v1, none] H := by
  obtain ⟨a, dx, n, rfl, ea, dn, ok, q⟩ := h
  have dn0 := dp_same (hid_same _ _) dn
  obtain ⟨b, y, rfl, hs, hy⟩ := dp_net dn
  obtain rfl := dp_int hy
  have hs0 := same_seqT (hid_same _ _) hs
  unfold t_Giver_init
  wtm_at "s"
  refine ⟨_, _, rfl, _, dn0, ok, rfl, ?_⟩
  wtm_at "s"
  refine kT (by simp) (fun nt H1 nnt s1 e1 => ?_)
  wtm_at "s"
  refine k_pF (s1 _ _ ea) T.K_Giver T.N_Giver_net (by decide) ?_
  obtain ⟨S1, e1, ea1⟩ := fld_step (.ins A.c_Giver dx (putF (Str.ofString "net") (.ref nt) [])) ea nnt s1 e1
  generalize upd H1 a (.ins A.c_Giver dx (putF (Str.ofString "net") (.ref nt) [])) = G1 at S1 e1 ea1 ⊢
  have l1 : (putF (Str.ofString "net") (.ref nt) []).length ≤ 1 := putF_len _ _ _
  wtm_at "s"
  refine kL (by simp) (fun cm H2 ncm s2 e2 => ?_)
  wtm_at "s"
  refine k_pF (s2 _ _ ea1) T.K_Giver T.N_Giver_come (by omega) ?_
  obtain ⟨S2, e2, ea2⟩ := fld_step (.ins A.c_Giver dx (putF (Str.ofString "come") (.ref cm) (putF (Str.ofString "net") (.ref nt) []))) ea1 ncm s2 e2
  generalize upd H2 a (.ins A.c_Giver dx (putF (Str.ofString "come") (.ref cm) (putF (Str.ofString "net") (.ref nt) []))) = G2 at S2 e2 ea2 ⊢
  have l2 : (putF (Str.ofString "come") (.ref cm) (putF (Str.ofString "net") (.ref nt) [])).length ≤ 2 := Nat.le_trans (putF_len _ _ _) (Nat.succ_le_succ l1)
  wtm_at "s"
  refine kL (by simp) (fun ln H3 nln s3 e3 => ?_)
  wtm_at "s"
  refine k_pF (s3 _ _ ea2) T.K_Giver T.N_Giver_lain (by omega) ?_
  obtain ⟨S3, e3, ea3⟩ := fld_step (.ins A.c_Giver dx (putF (Str.ofString "lain") (.ref ln) (putF (Str.ofString "come") (.ref cm) (putF (Str.ofString "net") (.ref nt) [])))) ea2 nln s3 e3
  generalize upd H3 a (.ins A.c_Giver dx (putF (Str.ofString "lain") (.ref ln) (putF (Str.ofString "come") (.ref cm) (putF (Str.ofString "net") (.ref nt) [])))) = G3 at S3 e3 ea3 ⊢
  have l3 : (putF (Str.ofString "lain") (.ref ln) (putF (Str.ofString "come") (.ref cm) (putF (Str.ofString "net") (.ref nt) []))).length ≤ 3 := Nat.le_trans (putF_len _ _ _) (Nat.succ_le_succ l2)
  wtm_at "s"
  refine kL (by simp) (fun gv H4 ngv s4 e4 => ?_)
  wtm_at "s"
  refine k_pF (s4 _ _ ea3) T.K_Giver T.N_Giver_given (by omega) ?_
  obtain ⟨S4, e4, ea4⟩ := fld_step (.ins A.c_Giver dx (putF (Str.ofString "given") (.ref gv) (putF (Str.ofString "lain") (.ref ln) (putF (Str.ofString "come") (.ref cm) (putF (Str.ofString "net") (.ref nt) []))))) ea3 ngv s4 e4
  generalize upd H4 a (.ins A.c_Giver dx (putF (Str.ofString "given") (.ref gv) (putF (Str.ofString "lain") (.ref ln) (putF (Str.ofString "come") (.ref cm) (putF (Str.ofString "net") (.ref nt) []))))) = G4 at S4 e4 ea4 ⊢
  have l4 : (putF (Str.ofString "given") (.ref gv) (putF (Str.ofString "lain") (.ref ln) (putF (Str.ofString "come") (.ref cm) (putF (Str.ofString "net") (.ref nt) [])))).length ≤ 4 := Nat.le_trans (putF_len _ _ _) (Nat.succ_le_succ l3)
  wtm_at "s"
  refine kL (by simp) (fun lv H5 nlv s5 e5 => ?_)
  wtm_at "s"
  refine k_pF (s5 _ _ ea4) T.K_Giver T.N_Giver_level (by omega) ?_
  obtain ⟨S5, e5, ea5⟩ := fld_step (.ins A.c_Giver dx (putF (Str.ofString "level") (.ref lv) (putF (Str.ofString "given") (.ref gv) (putF (Str.ofString "lain") (.ref ln) (putF (Str.ofString "come") (.ref cm) (putF (Str.ofString "net") (.ref nt) [])))))) ea4 nlv s5 e5
  generalize upd H5 a (.ins A.c_Giver dx (putF (Str.ofString "level") (.ref lv) (putF (Str.ofString "given") (.ref gv) (putF (Str.ofString "lain") (.ref ln) (putF (Str.ofString "come") (.ref cm) (putF (Str.ofString "net") (.ref nt) [])))))) = G5 at S5 e5 ea5 ⊢
  have l5 : (putF (Str.ofString "level") (.ref lv) (putF (Str.ofString "given") (.ref gv) (putF (Str.ofString "lain") (.ref ln) (putF (Str.ofString "come") (.ref cm) (putF (Str.ofString "net") (.ref nt) []))))).length ≤ 5 := Nat.le_trans (putF_len _ _ _) (Nat.succ_le_succ l4)
  wtm_at "s"
  refine kL (by simp) (fun ow H6 now s6 e6 => ?_)
  wtm_at "s"
  refine k_pF (s6 _ _ ea5) T.K_Giver T.N_Giver_own (by omega) ?_
  obtain ⟨S6, e6, ea6⟩ := fld_step (.ins A.c_Giver dx (putF (Str.ofString "own") (.ref ow) (putF (Str.ofString "level") (.ref lv) (putF (Str.ofString "given") (.ref gv) (putF (Str.ofString "lain") (.ref ln) (putF (Str.ofString "come") (.ref cm) (putF (Str.ofString "net") (.ref nt) []))))))) ea5 now s6 e6
  generalize upd H6 a (.ins A.c_Giver dx (putF (Str.ofString "own") (.ref ow) (putF (Str.ofString "level") (.ref lv) (putF (Str.ofString "given") (.ref gv) (putF (Str.ofString "lain") (.ref ln) (putF (Str.ofString "come") (.ref cm) (putF (Str.ofString "net") (.ref nt) []))))))) = G6 at S6 e6 ea6 ⊢
  have l6 : (putF (Str.ofString "own") (.ref ow) (putF (Str.ofString "level") (.ref lv) (putF (Str.ofString "given") (.ref gv) (putF (Str.ofString "lain") (.ref ln) (putF (Str.ofString "come") (.ref cm) (putF (Str.ofString "net") (.ref nt) [])))))).length ≤ 6 := Nat.le_trans (putF_len _ _ _) (Nat.succ_le_succ l5)
  have hs6 : SqT K G6 b [.str (Net.line n).kind, .int n] := same_seqT ((S1.trans (S2.trans (S3.trans (S4.trans (S5.trans S6))))).trans (hid_same _ _)) hs
  have ok1 : 1 < n ∧ n ≤ 60 := by obtain ⟨z1, z2⟩ := ok; omega
  wtm_at "s"
  refine lc_rowsR (by omega) (fun _ => .lst (List.map V.int (List.replicate 42 0))) ?_ (fun D rs H7 nD s7 eD lr nd dr fr at_ => ?_)
  · intro i H' hi sm R R0 h1
    wtm_at "s"
    refine kL (by simp) (fun z H'' nz sz ez => ?_)
    wtm_at "s"
    refine k_repN ez (by decide) (by decide) (by decide) (fun r H3 nr sr er => ?_)
    refine h1 r H3 (sz.free nr) (sz.trans sr) ?_
    rw [er, rep0g]; rfl
  · wtm_at "s"
    have ne_nt_cm := ne_new (hid_same _ _ _ _ e1) ncm
    have ne_a_cm := ne_new ea1 ncm
    have ne_nt_ln := ne_new (hid_same _ _ _ _ ((S2) _ _ e1)) nln
    have ne_cm_ln := ne_new (hid_same _ _ _ _ e2) nln
    have ne_a_ln := ne_new ea2 nln
    have ne_nt_gv := ne_new (hid_same _ _ _ _ ((S2.trans (S3)) _ _ e1)) ngv
    have ne_cm_gv := ne_new (hid_same _ _ _ _ ((S3) _ _ e2)) ngv
    have ne_ln_gv := ne_new (hid_same _ _ _ _ e3) ngv
    have ne_a_gv := ne_new ea3 ngv
    have ne_nt_lv := ne_new (hid_same _ _ _ _ ((S2.trans (S3.trans (S4))) _ _ e1)) nlv
    have ne_cm_lv := ne_new (hid_same _ _ _ _ ((S3.trans (S4)) _ _ e2)) nlv
    have ne_ln_lv := ne_new (hid_same _ _ _ _ ((S4) _ _ e3)) nlv
    have ne_gv_lv := ne_new (hid_same _ _ _ _ e4) nlv
    have ne_a_lv := ne_new ea4 nlv
    have ne_nt_ow := ne_new (hid_same _ _ _ _ ((S2.trans (S3.trans (S4.trans (S5)))) _ _ e1)) now
    have ne_cm_ow := ne_new (hid_same _ _ _ _ ((S3.trans (S4.trans (S5))) _ _ e2)) now
    have ne_ln_ow := ne_new (hid_same _ _ _ _ ((S4.trans (S5)) _ _ e3)) now
    have ne_gv_ow := ne_new (hid_same _ _ _ _ ((S5) _ _ e4)) now
    have ne_lv_ow := ne_new (hid_same _ _ _ _ e5) now
    have ne_a_ow := ne_new ea5 now
    have ne_a_nt := ne_new ea nnt
    have y1 : G6 nt ≠ none := by rw [hid_same _ _ _ _ ((S2.trans (S3.trans (S4.trans (S5.trans (S6))))) _ _ e1)]; simp
    have y2 : G6 cm ≠ none := by rw [hid_same _ _ _ _ ((S3.trans (S4.trans (S5.trans (S6)))) _ _ e2)]; simp
    have y3 : G6 ln ≠ none := by rw [hid_same _ _ _ _ ((S4.trans (S5.trans (S6))) _ _ e3)]; simp
    have y4 : G6 gv ≠ none := by rw [hid_same _ _ _ _ ((S5.trans (S6)) _ _ e4)]; simp
    have y5 : G6 lv ≠ none := by rw [hid_same _ _ _ _ ((S6) _ _ e5)]; simp
    have y6 : G6 ow ≠ none := by rw [hid_same _ _ _ _ e6]; simp
    have y0 : G6 a ≠ none := by rw [ea6]; simp
    have f2 : H cm = none := free_back (S1) ea1 ncm
    have f3 : H ln = none := free_back (S1.trans (S2)) ea2 nln
    have f4 : H gv = none := free_back (S1.trans (S2.trans (S3))) ea3 ngv
    have f5 : H lv = none := free_back (S1.trans (S2.trans (S3.trans (S4)))) ea4 nlv
    have f6 : H ow = none := free_back (S1.trans (S2.trans (S3.trans (S4.trans (S5))))) ea5 now
    have f7 : ∀ x, G6 x = none → H x = none := fun x hx => free_back (S1.trans (S2.trans (S3.trans (S4.trans (S5.trans (S6)))))) ea6 hx
    have all6 : ∀ x ∈ [ow, lv, gv, ln, cm, nt, a], G6 x ≠ none := by
      intro x hx
      simp only [List.mem_cons, List.not_mem_nil, or_false] at hx
      rcases hx with rfl | rfl | rfl | rfl | rfl | rfl | rfl <;> assumption
    have nd6 : [ow, lv, gv, ln, cm, nt, a].Nodup := by
      simp only [List.nodup_cons, List.mem_cons, List.not_mem_nil, or_false, not_or, List.nodup_nil, not_false_eq_true, and_true]
      exact ⟨⟨ne_lv_ow.symm, ne_gv_ow.symm, ne_ln_ow.symm, ne_cm_ow.symm, ne_nt_ow.symm, ne_a_ow.symm⟩, ⟨ne_gv_lv.symm, ne_ln_lv.symm, ne_cm_lv.symm, ne_nt_lv.symm, ne_a_lv.symm⟩, ⟨ne_ln_gv.symm, ne_cm_gv.symm, ne_nt_gv.symm, ne_a_gv.symm⟩, ⟨ne_cm_ln.symm, ne_nt_ln.symm, ne_a_ln.symm⟩, ⟨ne_nt_cm.symm, ne_a_cm.symm⟩, ne_a_nt.symm⟩
    have nda : (D :: (rs ++ [ow, lv, gv, ln, cm, nt, a])).Nodup := by
      refine List.nodup_cons.mpr ⟨fun z => ?_, List.nodup_append.mpr ⟨nd, nd6, fun r hr x hx e => ?_⟩⟩
      · rcases List.mem_append.mp z with z | z
        · exact dr z
        · exact all6 D z nD
      · subst e
        exact all6 r hx (fr r hr)
    refine k_pF (s7 _ _ ea6) T.K_Giver T.N_Giver_upto (by omega) ?_
    have keep : ∀ p o, p ∈ [ow, lv, gv, ln, cm, nt] → hid [a] G6 p = some o → ∀ x, upd H7 a x p = some o := fun p o hp e x => by
      have pa : p ≠ a := fun z => by rw [z, hid_in (by simp)] at e; cases e
      rw [upd_ne pa]
      exact s7 _ _ (hid_same _ _ _ _ e)
    refine q nt cm ln gv lv ow D rs _ ?_ ?_ (keep nt _ (by simp) ((S2.trans (S3.trans (S4.trans (S5.trans S6)))) _ _ e1) _) (keep cm _ (by simp) ((S3.trans (S4.trans (S5.trans S6))) _ _ e2) _) (keep ln _ (by simp) ((S4.trans (S5.trans S6)) _ _ e3) _) (keep gv _ (by simp) ((S5.trans S6) _ _ e4) _) (keep lv _ (by simp) (S6 _ _ e5) _) (keep ow _ (by simp) e6 _) ?_ (by rw [lr]) (fun j r hr => ?_) nda ?_
    · rw [hid_upd (by simp)]
      exact (S1.trans (S2.trans (S3.trans (S4.trans (S5.trans S6))))).trans (hid_mono s7)
    · rw [upd_same]; rfl
    · rw [upd_ne (fun z => all6 D (by rw [z]; simp) nD)]; exact eD
    · rw [upd_ne (fun z => all6 r (by rw [z]; simp) (fr r (List.mem_of_getElem? hr)))]; exact at_ j r hr
    · intro r hr
      rcases List.mem_cons.mp hr with rfl | hr
      · exact f7 _ nD
      · rcases List.mem_append.mp hr with hr | hr
        · exact f7 _ (fr r hr)
        · simp only [List.mem_cons, List.not_mem_nil, or_false] at hr
          rcases hr with rfl | rfl | rfl | rfl | rfl | rfl <;> assumption
abbrev sp_Giver_init (K : PySem.W.Frag) (A : Ad) : Sp := fun vs H Q E => ∃ v0 v1, vs = [v0, v1] ∧ pr_Giver_init K A v0 v1 H Q E
theorem ok_Giver_init (T : Txt K mg A) : FnOk P w K mg base CX0 4 A.a_Giver_init A.d_Giver_init ["self", "net"] (sp_Giver_init K A) := by
  refine T.F_Giver_init.ok sc_Giver_init (fun vs H Q E h => by obtain ⟨v0, v1, rfl, _⟩ := h; rfl) (fun cdv A0 outer s H vs Q E hr h => ?_)
  obtain ⟨v0, v1, rfl, h⟩ := h
  exact ⟨t_Giver_init K A, (pss_cons (ps_expr (pe_call (ok_must_be_kind T) (hr.mono (by decide)) (by rfl) T.g_must_be_kind T.F_must_be_kind.kp T.b_must_be_kind .nil pass0 (pa_cons (pv 1) (pa_cons pe_str pa_nil))))
      (pss_cons (ps_fld (pv 0) (pe_tup (pa_cons (pe_ix ix_tup (pv 1) pe_int (fun _ _ => rfl)) (pa_cons (pe_ix ix_tup (pv 1) pe_int (fun _ _ => rfl)) pa_nil))) (by rfl))
      (pss_cons (ps_fld (pv 0) (pe_lst pa_nil) (by rfl))
      (pss_cons (ps_fld (pv 0) (pe_lst pa_nil) (by rfl))
      (pss_cons (ps_fld (pv 0) (pe_lst pa_nil) (by rfl))
      (pss_cons (ps_fld (pv 0) (pe_lst pa_nil) (by rfl))
      (pss_cons (ps_fld (pv 0) (pe_lst pa_nil) (by rfl))
      (pss_one (ps_fld (pv 0) (pe_lc (own := [("tie", 2)]) (by rfl) sc_Giver_init.nd (pi_range1 (by rfl) T.z_range (pa_cons (pe_op op_sub (pe_ix ix_tup (pv 1) pe_int (fun _ _ => rfl)) pe_int) pa_nil)) (blkOk_by (own := [("tie", 2)]) (N := ["self", "net", "tie"]) (sc := defScope s_Giver_init) (by decide +kernel)) (fun _ _ _ _ _ => (pg_name (i := 2) sc_Giver_init.nd rfl (Or.inl rfl))) (fun _ _ _ _ _ => pts_nil) (fun _ _ _ _ _ => (pe_op op_rep (pe_lst (pa_cons pe_int pa_nil)) (pe_op op_add (pe_glob (v := .int 40) (by rfl) T.c_MOST_WAYS ⟨_, rfl⟩) pe_int)))) (by rfl)))))))))), pure_Giver_init T h⟩


def rowOf (es : List Ent) (t : Nat) : List Int := (List.range 42).map fun i : Nat => ((upto es (t : Int) i : Nat) : Int)
theorem rowOf_get {es : List Ent} {t i : Nat} (h : i < 42) : (rowOf es t)[i]? = some ((upto es (t : Int) i : Nat) : Int) := by
  unfold rowOf
  rw [List.getElem?_map, List.getElem?_range h]; rfl
/-- the rows of upto -/
structure UpAt (K : PySem.W.Frag) (A : Ad) (H : Hp) (a up : Addr) (rs : List Addr) (n : Int) (es : List Ent) : Prop where
  ins : ∃ dx fs, H a = some (.ins A.c_Giver dx fs) ∧ fs.lookup (Str.ofString "upto") = some (.ref up)
  up_ : H up = some (.lst (rs.map V.ref))
  len : rs.length = (n - 1).toNat
  row : ∀ (j : Nat) r, rs[j]? = some r → H r = some (.lst (List.map V.int (rowOf es j)))
theorem UpAt.same {H H' : Hp} {a up : Addr} {rs : List Addr} {n : Int} {es : List Ent} (u : UpAt K A H a up rs n es) (s : Same H H') : UpAt K A H' a up rs n es := by
  obtain ⟨⟨dx, fs, h1, h2⟩, h3, h4, h5⟩ := u
  exact ⟨⟨dx, fs, s _ _ h1, h2⟩, s _ _ h3, h4, fun j r hr => s _ _ (h5 j r hr)⟩
def pr_Giver_level_for (K : PySem.W.Frag) (A : Ad) (v0 v1 : V) (H : Hp) (Q : VK) (_ : XK) : Prop := ∃ (a up p : Addr) (rs : List Addr) (n : Int) (es : List Ent) (w : Int × Int), v0 = .ref a ∧ v1 = .ref p ∧ UpAt K A H a up rs n es ∧ SqL K H p ((tiesI w).map V.int) ∧ 0 ≤ w.1 ∧ w.1 ≤ w.2 ∧ w.2 < n - 1 ∧ n ≤ 60 ∧ es.length ≤ 40 ∧
  ∀ (i : Nat) H', LevelOf es w i → i ≤ es.length + 1 → Same H H' → Q (.int i) H'
def t_Giver_level_for (K : PySem.W.Frag) (A : Ad) : TS :=
  (tSeq (tAsg (tC (.int 1)) (gName 2))
    (tSeq (tWhile (tTest (tOp xGt (tOp xAdd (tCB (rMax K) (tCons (tLc (iList K (tVar 1)) (gName 3) tYes (tOp (rIxL K) (tOp (rIxL K) (tFld K (tVar 0) "upto") (tVar 3)) (tVar 2)) [3]) tNil)) (tC (.int 1))) (tVar 2)))
      (tAug 2 (tC (.int 1)) (ipI fun i j => i + j)))
    (tRet (tVar 2))))
theorem pure_Giver_level_for (T : Txt K mg A) {v0 v1 : V} {H : Hp} {Q : VK} {E : XK} (h : pr_Giver_level_for K A v0 v1 H Q E) : t_Giver_level_for K A ⟨fun _ H' => Q .non H', Q, fun _ _ => False, fun _ _ => False⟩ [some v0, some v1, none, none] H := by
  obtain ⟨a, up, p, rs, n, es, w, rfl, rfl, u, hp, w0, w1, w2, n60, le, q⟩ := h
  obtain ⟨lv, hlv, lvl⟩ := level_ex es w
  unfold t_Giver_level_for
  wtm_at "s"
  refine k_while ⟨fun m σ' H' => Same H H' ∧ ∃ i : Nat, 1 ≤ i ∧ i ≤ lv ∧ m + i = lv ∧ σ' = [some (.ref a), some (.ref p), some (.int (i : Nat)), none], ⟨lv - 1, Same.refl _, 1, by omega, lvl.1, by have := lvl.1; omega, rfl⟩, ?_⟩
  rintro m σ' G ⟨sG, i, i1, i2, mi, rfl⟩
  have uG := u.same sG
  have hpG := sG.seq hp
  obtain ⟨⟨dx, fs, hia, hif⟩, hup, hlen, hrow⟩ := uG
  wtm_at "s"
  refine lc_pure hpG (tiesI w) (by simp) (by rw [tiesI_len]; omega) (fun t => some (V.int ((upto es t i : Nat) : Int))) ?_ (fun D H2 nD s2 eD => ?_)
  · intro j x t H' hx ht sm R R0 h1 h2
    rw [List.getElem?_map, ht] at hx
    cases hx
    obtain ⟨t0, t1⟩ := tiesI_mem.mp (List.mem_of_getElem? ht)
    obtain ⟨k, rfl⟩ := Int.eq_ofNat_of_zero_le (show 0 ≤ t by omega)
    obtain ⟨r, hr⟩ : ∃ r, rs[k]? = some r := ⟨rs[k]'(by omega), List.getElem?_eq_getElem (by omega)⟩
    wtm_at "s"
    refine k_gF (sm _ _ hia) T.K_Giver T.N_Giver_upto hif ?_
    wtm_at "s"
    refine k_ixL (sl (sm _ _ hup)) (atI_nat (by rw [List.getElem?_map, hr]; rfl)) ?_
    wtm_at "s"
    refine k_ixN (sl (sm _ _ (hrow k r hr))) (rowOf_get (by omega)) ?_
    exact h1 _ rfl
  have eD' : H2 D = some (.lst (List.map V.int ((tiesI w).map fun t => ((upto es t i : Nat) : Int)))) := by
    rw [eD, show (fun t => some (V.int ((upto es t i : Nat) : Int))) = some ∘ (fun t : Int => V.int ((upto es t i : Nat) : Int)) from rfl, List.filterMap_eq_map, List.map_map]; rfl
  wtm_at "s"
  refine k_max (sl eD') (by rw [List.length_map, tiesI_len]; omega) (fun mx m1 m2 => ?_)
  wtm_at "s"
  refine k_it (fun c => ?_) (fun c => ?_)
  · have il : i < lv := by
      refine Classical.byContradiction fun z => ?_
      obtain rfl : i = lv := by omega
      obtain ⟨t, ht, rfl⟩ := List.mem_map.mp m1
      have := lvl.2.1 t (tiesI_mem.mp ht)
      omega
    refine ⟨fun σ' H' => Same H H' ∧ σ' = [some (.ref a), some (.ref p), some (.int ((i + 1 : Nat) : Int)), none], fun σ' H' e => ⟨m - 1, by omega, e.1, i + 1, by omega, by omega, by omega, e.2⟩, ?_⟩
    wtm_at "s"
    exact ⟨sG.trans s2, by rw [show ((i + 1 : Nat) : Int) = (i : Int) + 1 by omega]⟩
  · have il : i = lv := by
      refine Classical.byContradiction fun z => ?_
      obtain ⟨t, ht, hu⟩ := lvl.2.2 i i1 (by omega)
      have := m2 _ (List.mem_map.mpr ⟨t, tiesI_mem.mpr ht, rfl⟩)
      omega
    subst il
    wtm_at "s"
    exact q _ _ lvl hlv (sG.trans s2)
abbrev sp_Giver_level_for (K : PySem.W.Frag) (A : Ad) : Sp := fun vs H Q E => ∃ v0 v1, vs = [v0, v1] ∧ pr_Giver_level_for K A v0 v1 H Q E
theorem ok_Giver_level_for (T : Txt K mg A) : FnOk P w K mg base CX0 1 A.a_Giver_level_for A.d_Giver_level_for ["self", "ties"] (sp_Giver_level_for K A) := by
  refine T.F_Giver_level_for.ok sc_Giver_level_for (fun vs H Q E h => by obtain ⟨v0, v1, rfl, _⟩ := h; rfl) (fun cdv A0 outer s H vs Q E hr h => ?_)
  obtain ⟨v0, v1, rfl, h⟩ := h
  exact ⟨t_Giver_level_for K A, (pss_cons (ps_set (i := 2) sc_Giver_level_for.nd rfl (Or.inr rfl) pe_int)
      (pss_cons (ps_while PassesOwn.never (pt_cmpR op_gt (pe_op op_add (pe_callB (cr_max (by rfl)) (by rfl) T.z_max (by decide +kernel) (pa_cons (pe_lc (own := [("tie", 3)]) (by rfl) sc_Giver_level_for.nd (pi_list (pv 1)) (blkOk_by (own := [("tie", 3)]) (N := ["self", "ties", "i", "tie"]) (sc := defScope s_Giver_level_for) (by decide +kernel)) (fun _ _ _ _ _ => (pg_name (i := 3) sc_Giver_level_for.nd rfl (Or.inl rfl))) (fun _ _ _ _ _ => pts_nil) (fun _ _ _ _ _ => (pe_ix ix_list (pe_ix ix_list (pe_fld (pv 0) (by rfl)) (pv 3) (fun _ _ => rfl)) (pv 2) (fun _ _ => rfl)))) pa_nil)) pe_int) (pv 2) (nomark _))
      (pss_one (ps_aug (i := 2) sc_Giver_level_for.nd rfl (Or.inr rfl) pe_int ip_add)))
      (pss_one (ps_ret (pv 2))))), pure_Giver_level_for T h⟩


def ownT (es : List Ent) (i : Nat) (t : Int) : Prop := upto es t (i - 1) = i - 1 ∧ upto es t i = i - 1
def OwnOf (es : List Ent) (w : Int × Int) (i : Nat) (t : Int) : Prop := onI w t ∧ ownT es i t ∧ ∀ t', onI w t' → t' < t → ¬ ownT es i t'
def pr_Giver_own_for (K : PySem.W.Frag) (A : Ad) (v0 v1 v2 : V) (H : Hp) (Q : VK) (_ : XK) : Prop := ∃ (a up p : Addr) (rs : List Addr) (n : Int) (es : List Ent) (w : Int × Int) (i : Nat), v0 = .ref a ∧ v1 = .ref p ∧ v2 = .int i ∧ UpAt K A H a up rs n es ∧ SqL K H p ((tiesI w).map V.int) ∧ 0 ≤ w.1 ∧ w.1 ≤ w.2 ∧ w.2 < n - 1 ∧ n ≤ 60 ∧ es.length ≤ 40 ∧ LevelOf es w i ∧ i ≤ 41 ∧ (∀ e ∈ es, 1 ≤ e.2) ∧
  ∀ (t : Int), OwnOf es w i t → Q (.int t) H
def t_Giver_own_for (K : PySem.W.Frag) (A : Ad) : TS :=
  (tSeq (tFor (iList K (tVar 1)) (gName 3)
      (tIfS (tAnd (tTest (tOp rEq (tOp (rIxL K) (tOp (rIxL K) (tFld K (tVar 0) "upto") (tVar 3)) (tOp xSub (tVar 2) (tC (.int 1)))) (tOp xSub (tVar 2) (tC (.int 1))))) (tTest (tOp rEq (tOp (rIxL K) (tOp (rIxL K) (tFld K (tVar 0) "upto") (tVar 3)) (tVar 2)) (tOp xSub (tVar 2) (tC (.int 1)))))) (tRet (tVar 3)) tNext))
    (tRet (tC .non)))
theorem own_there {es : List Ent} {w : Int × Int} {i : Nat} (l : LevelOf es w i) (hw : w.1 ≤ w.2) (pos : ∀ e ∈ es, 1 ≤ e.2) : ∃ t, onI w t ∧ ownT es i t := by
  obtain ⟨l1, l2, l3⟩ := l
  have key : ∀ t, onI w t → i - 1 ≤ upto es t (i - 1) → ownT es i t := fun t ht hu => by
    have a := l2 t ht
    have b := upto_lev (es := es) (t := t) (i := i - 1) (j := i) (by omega)
    exact ⟨by omega, by omega⟩
  by_cases c : i = 1
  · subst c
    exact ⟨w.1, ⟨by omega, hw⟩, key _ ⟨by omega, hw⟩ (Nat.zero_le _)⟩
  · obtain ⟨t, h1, h2⟩ := l3 (i - 1) (by omega) (by omega)
    exact ⟨t, h1, key t h1 h2⟩
theorem pure_Giver_own_for (T : Txt K mg A) {v0 v1 v2 : V} {H : Hp} {Q : VK} {E : XK} (h : pr_Giver_own_for K A v0 v1 v2 H Q E) : t_Giver_own_for K A ⟨fun _ H' => Q .non H', Q, fun _ _ => False, fun _ _ => False⟩ [some v0, some v1, some v2, none] H := by
  obtain ⟨a, up, p, rs, n, es, w, i, rfl, rfl, rfl, u, hp, w0, w1, w2, n60, le, lvl, i41, pos, q⟩ := h
  obtain ⟨own, hown⟩ := own_there lvl w1 pos
  have i1 := lvl.1
  obtain ⟨⟨dx, fs, hia, hif⟩, hup, hlen, hrow⟩ := u
  unfold t_Giver_own_for
  wtm_at "s"
  refine forL hp (fun j σ' H' => H' = H ∧ (∀ t, onI w t → t < w.1 + (j : Nat) → ¬ ownT es i t) ∧ ∃ k3, σ' = [some (.ref a), some (.ref p), some (.int (i : Nat)), k3]) ⟨rfl, fun t ht h => by unfold onI at ht; omega, _, rfl⟩ (fun j σ' H' _ e => by rw [e.1]; exact hp) ?_ ?_
  · rintro j x σ' H' hx ⟨rfl, hno, k3, rfl⟩
    have hj : j < (tiesI w).length := by
      have := (List.getElem?_eq_some_iff.mp hx).1
      simpa using this
    rw [tiesI_len] at hj
    rw [List.getElem?_map, tiesI_get (by omega)] at hx
    cases hx
    obtain ⟨k, hk⟩ := Int.eq_ofNat_of_zero_le (show 0 ≤ w.1 + (j : Int) by omega)
    obtain ⟨r, hr⟩ : ∃ r, rs[k]? = some r := ⟨rs[k]'(by omega), List.getElem?_eq_getElem (by omega)⟩
    rw [hk]
    wtm_at "s"
    refine k_gF hia T.K_Giver T.N_Giver_upto hif ?_
    wtm_at "s"
    refine k_ixL (sl hup) (atI_nat (by rw [List.getElem?_map, hr]; rfl)) ?_
    wtm_at "s"
    rw [show (i : Int) - 1 = ((i - 1 : Nat) : Int) by omega]
    refine k_ixN (sl (hrow k r hr)) (rowOf_get (by omega)) ?_
    wtm_at "s"
    have more : ¬ ownT es i (k : Int) → ∀ t, onI w t → t < w.1 + ((j + 1 : Nat) : Int) → ¬ ownT es i t := fun nk t ht hlt => by
      by_cases c : t < w.1 + (j : Nat)
      · exact hno t ht c
      · rw [show t = (k : Int) by omega]; exact nk
    refine k_it (fun c1 => ?_) (fun c1 => ?_)
    · wtm_at "s"
      refine k_gF hia T.K_Giver T.N_Giver_upto hif ?_
      wtm_at "s"
      refine k_ixL (sl hup) (atI_nat (by rw [List.getElem?_map, hr]; rfl)) ?_
      wtm_at "s"
      refine k_ixN (sl (hrow k r hr)) (rowOf_get (by omega)) ?_
      wtm_at "s"
      refine k_it (fun c2 => ?_) (fun c2 => ?_)
      · wtm_at "s"
        exact q _ ⟨⟨by omega, by omega⟩, ⟨by omega, by omega⟩, fun t' ht hlt => hno t' ht (by omega)⟩
      · exact k_next ⟨rfl, more (fun z => c2 (by have := z.2; omega)), _, rfl⟩
    · first | refine k_next ?_ | refine iteF (k_next ?_)
      exact ⟨rfl, more (fun z => c1 (by have := z.1; omega)), _, rfl⟩
  · rintro σ' H' ⟨rfl, hno, k3, rfl⟩
    exact absurd hown.2 (hno own hown.1 (by rw [List.length_map, tiesI_len]; have := hown.1.2; omega))
abbrev sp_Giver_own_for (K : PySem.W.Frag) (A : Ad) : Sp := fun vs H Q E => ∃ v0 v1 v2, vs = [v0, v1, v2] ∧ pr_Giver_own_for K A v0 v1 v2 H Q E
theorem ok_Giver_own_for (T : Txt K mg A) : FnOk P w K mg base CX0 1 A.a_Giver_own_for A.d_Giver_own_for ["self", "ties", "i"] (sp_Giver_own_for K A) := by
  refine T.F_Giver_own_for.ok sc_Giver_own_for (fun vs H Q E h => by obtain ⟨v0, v1, v2, rfl, _⟩ := h; rfl) (fun cdv A0 outer s H vs Q E hr h => ?_)
  obtain ⟨v0, v1, v2, rfl, h⟩ := h
  exact ⟨t_Giver_own_for K A, (pss_cons (ps_for PassesOwn.never rfl (pi_list (pv 1)) (pg_name (i := 3) sc_Giver_own_for.nd rfl (Or.inl rfl))
      (pss_one (ps_if (PW.pt (pw_and (pt_cmpR op_eq (pe_ix ix_list (pe_ix ix_list (pe_fld (pv 0) (by rfl)) (pv 3) (fun _ _ => rfl)) (pe_op op_sub (pv 2) pe_int) (fun _ _ => rfl)) (pe_op op_sub (pv 2) pe_int) (nomark _)) (pw_and1 (pt_cmpR op_eq (pe_ix ix_list (pe_ix ix_list (pe_fld (pv 0) (by rfl)) (pv 3) (fun _ _ => rfl)) (pv 2) (fun _ _ => rfl)) (pe_op op_sub (pv 2) pe_int) (nomark _))))) (pss_one (ps_ret (pv 3))) pss_nil)))
      (pss_one (ps_ret pe_non))), pure_Giver_own_for T h⟩
theorem nodup_inj {α : Type} {l : List α} {i j : Nat} {x : α} (nd : l.Nodup) (hi : l[i]? = some x) (hj : l[j]? = some x) : i = j := by
  obtain ⟨b1, b2⟩ := List.getElem?_eq_some_iff.mp hi
  obtain ⟨c1, c2⟩ := List.getElem?_eq_some_iff.mp hj
  rcases Nat.lt_trichotomy i j with h | h | h
  · exact absurd (b2.trans c2.symm) (List.pairwise_iff_getElem.mp nd i j b1 c1 h)
  · exact h
  · exact absurd (c2.trans b2.symm) (List.pairwise_iff_getElem.mp nd j i c1 b1 h)
instance (w : Int × Int) (t : Int) : Decidable (onI w t) := inferInstanceAs (Decidable (w.1 ≤ t ∧ t ≤ w.2))
theorem upto_more {es : List Ent} {w : Int × Int} {i : Nat} {t : Int} {k : Nat} : upto (es ++ [(w, i)]) t k = upto es t k + if i ≤ k ∧ onI w t then 1 else 0 := by
  unfold upto
  rw [List.countP_append, List.countP_singleton]
  congr 1
  by_cases c : i ≤ k ∧ onI w t
  · rw [if_pos c, if_pos (pUp_on.mpr c)]
  · rw [if_neg c, if_neg (fun z => c (pUp_on.mp z))]
theorem row_off {es : List Ent} {w : Int × Int} {i t : Nat} (h : ¬ onI w (t : Int)) : rowOf (es ++ [(w, i)]) t = rowOf es t := by
  unfold rowOf
  refine List.map_congr_left fun k _ => ?_
  rw [upto_more, if_neg (fun z => h z.2), Nat.add_zero]
/-- a row half way: the first m of it are new -/
def rowMid (es : List Ent) (w : Int × Int) (i t m : Nat) : List Int := (List.range 42).map fun k : Nat => if k < m then ((upto (es ++ [(w, i)]) (t : Int) k : Nat) : Int) else ((upto es (t : Int) k : Nat) : Int)
theorem mid_from {es : List Ent} {w : Int × Int} {i t : Nat} : rowMid es w i t i = rowOf es t := by
  unfold rowMid rowOf
  refine List.map_congr_left fun k _ => ?_
  split
  · rw [upto_more, if_neg (fun z => by have := z.1; omega), Nat.add_zero]
  · rfl
theorem mid_end {es : List Ent} {w : Int × Int} {i t m : Nat} (h : 42 ≤ m) : rowMid es w i t m = rowOf (es ++ [(w, i)]) t := by
  unfold rowMid rowOf
  refine List.map_congr_left fun k hk => ?_
  have := List.mem_range.mp hk
  rw [if_pos (by omega)]
theorem mid_get {es : List Ent} {w : Int × Int} {i t m : Nat} (h : m < 42) : (rowMid es w i t m)[m]? = some ((upto es (t : Int) m : Nat) : Int) := by
  unfold rowMid
  rw [List.getElem?_map, List.getElem?_range h]
  simp
theorem mid_set {es : List Ent} {w : Int × Int} {i t m : Nat} (h : m < 42) (hi : i ≤ m) (on : onI w (t : Int)) : (rowMid es w i t m).set m (((upto es (t : Int) m : Nat) : Int) + 1) = rowMid es w i t (m + 1) := by
  refine List.ext_getElem? fun k => ?_
  unfold rowMid
  rw [List.getElem?_set]
  by_cases c : m = k
  · subst c
    rw [if_pos rfl, if_pos (by simp [h]), List.getElem?_map, List.getElem?_range h]
    simp only [Option.map_some]
    rw [if_pos (by omega), upto_more, if_pos ⟨hi, on⟩]
    congr 1
  · rw [if_neg c, List.getElem?_map, List.getElem?_map]
    by_cases d : k < 42
    · rw [List.getElem?_range d]
      simp only [Option.map_some]
      congr 1
      by_cases e : k < m
      · rw [if_pos e, if_pos (by omega)]
      · rw [if_neg e, if_neg (by omega)]
    · rw [List.getElem?_eq_none (by simpa using d)]; rfl
def pr_Giver_counted_in (K : PySem.W.Frag) (A : Ad) (v0 v1 v2 : V) (H : Hp) (Q : VK) (_ : XK) : Prop := ∃ (a up p : Addr) (rs : List Addr) (n : Int) (es : List Ent) (w : Int × Int) (i : Nat), v0 = .ref a ∧ v1 = .ref p ∧ v2 = .int i ∧ UpAt K A H a up rs n es ∧ H p = some (.lst ((tiesI w).map V.int)) ∧ a ∉ rs ∧ up ∉ rs ∧ p ∉ rs ∧ rs.Nodup ∧ 0 ≤ w.1 ∧ w.1 ≤ w.2 ∧ w.2 < n - 1 ∧ n ≤ 60 ∧ es.length ≤ 40 ∧ i ≤ 41 ∧
  ∀ H', Same (hid rs H) (hid rs H') → UpAt K A H' a up rs n (es ++ [(w, i)]) → Q .non H'
def t_Giver_counted_in (K : PySem.W.Frag) (A : Ad) : TS :=
  (tFor (iList K (tVar 1)) (gName 3)
      (tFor (iRng2 (tCons (tVar 2) (tCons (tOp xAdd (tC (.int 40)) (tC (.int 2))) tNil))) (gName 4)
      (xAugL K (tOp (rIxL K) (tFld K (tVar 0) "upto") (tVar 3)) (tVar 4) (tC (.int 1)))))
theorem pure_Giver_counted_in (T : Txt K mg A) {v0 v1 v2 : V} {H : Hp} {Q : VK} {E : XK} (h : pr_Giver_counted_in K A v0 v1 v2 H Q E) : t_Giver_counted_in K A ⟨fun _ H' => Q .non H', Q, fun _ _ => False, fun _ _ => False⟩ [some v0, some v1, some v2, none, none] H := by
  obtain ⟨a, up, p, rs, n, es, w, i, rfl, rfl, rfl, u, hp, na, nu, np, nd, w0, w1, w2, n60, le, i41, q⟩ := h
  obtain ⟨⟨dx, fs, hia, hif⟩, hup, hlen, hrow⟩ := u
  have hia' : hid rs H a = some (.ins A.c_Giver dx fs) := by rw [hid_ne na]; exact hia
  have hup' : hid rs H up = some (.lst (rs.map V.ref)) := by rw [hid_ne nu]; exact hup
  have hp' : hid rs H p = some (.lst ((tiesI w).map V.int)) := by rw [hid_ne np]; exact hp
  unfold t_Giver_counted_in
  wtm_at "s"
  refine forL (sl hp) (fun j σ' H' => Same (hid rs H) (hid rs H') ∧ (∀ (t : Nat) r, rs[t]? = some r → H' r = some (.lst (List.map V.int (if (t : Int) < w.1 + (j : Nat) then rowOf (es ++ [(w, i)]) t else rowOf es t)))) ∧ ∃ k3 k4, σ' = [some (.ref a), some (.ref p), some (.int (i : Nat)), k3, k4])
    ⟨Same.refl _, fun t r hr => ?_, _, _, rfl⟩ (fun j σ' H' _ e => sl (hid_same _ _ _ _ (e.1 _ _ hp'))) ?_ ?_
  · rw [hrow t r hr]
    split
    · rw [row_off (fun z => by have := z.1; omega)]
    · rfl
  · rintro j x σ' G hx ⟨sG, rows, k3, k4, rfl⟩
    have hj : j < (tiesI w).length := by
      have := (List.getElem?_eq_some_iff.mp hx).1
      simpa using this
    rw [tiesI_len] at hj
    rw [List.getElem?_map, tiesI_get (by omega)] at hx
    cases hx
    obtain ⟨k, hk⟩ := Int.eq_ofNat_of_zero_le (show 0 ≤ w.1 + (j : Int) by omega)
    obtain ⟨r, hr⟩ : ∃ r, rs[k]? = some r := ⟨rs[k]'(by omega), List.getElem?_eq_getElem (by omega)⟩
    have on : onI w (k : Int) := ⟨by omega, by omega⟩
    have rin : r ∈ rs := List.mem_of_getElem? hr
    have rowk := rows k r hr
    rw [if_neg (by omega)] at rowk
    rw [hk]
    wtm_at "s"
    have ar : a ∉ [r] := fun z => na (by rw [List.mem_singleton.mp z]; exact rin)
    have ur : up ∉ [r] := fun z => nu (by rw [List.mem_singleton.mp z]; exact rin)
    have ga0 : hid [r] G a = some (.ins A.c_Giver dx fs) := by rw [hid_ne ar]; exact hid_same _ _ _ _ (sG _ _ hia')
    have gu0 : hid [r] G up = some (.lst (rs.map V.ref)) := by rw [hid_ne ur]; exact hid_same _ _ _ _ (sG _ _ hup')
    refine forR (fun m σ' G' => Same (hid [r] G) (hid [r] G') ∧ G' r = some (.lst (List.map V.int (rowMid es w i k (i + m)))) ∧ ∃ k4, σ' = [some (.ref a), some (.ref p), some (.int (i : Nat)), some (.int (k : Nat)), k4]) ⟨Same.refl _, by rw [rowk, Nat.add_zero, mid_from], _, rfl⟩ ?_ ?_
    · rintro m σ' G' hm ⟨s', er, k4, rfl⟩
      have ga := hid_same _ _ _ _ (s' _ _ ga0)
      have gu := hid_same _ _ _ _ (s' _ _ gu0)
      have i42 : i + m < 42 := by omega
      have lmid : (rowMid es w i k (i + m)).length = 42 := by unfold rowMid; simp
      rw [show (i : Int) + (m : Nat) = ((i + m : Nat) : Int) by omega]
      wtm_at "s"
      refine k_gF ga T.K_Giver T.N_Giver_upto hif ?_
      wtm_at "s"
      refine k_ixL (sl gu) (atI_nat (by rw [List.getElem?_map, hr]; rfl)) ?_
      wtm_at "s"
      refine k_getI (ns := rowMid es w i k (i + m)) (sl er) (by omega) (by omega) ?_
      rw [Int.toNat_natCast, List.getD_eq_getElem?_getD, mid_get i42]
      wtm_at "s"
      refine k_setL er (j := i + m) (by unfold ixN; rw [if_pos (by omega)]; simp [lmid]; omega) ?_
      refine ⟨by rw [hid_upd (by simp)]; exact s', ?_, _, rfl⟩
      rw [upd_same, ← Nat.add_assoc, ← mid_set i42 (by omega) on, List.map_set]; rfl
    · rintro σ' G' ⟨s', er, k4, rfl⟩
      refine ⟨sG.trans (hid_more s' (fun x hx => by rw [List.mem_singleton.mp hx]; exact rin)), fun t r' hr' => ?_, _, _, rfl⟩
      by_cases c : t = k
      · subst c
        obtain rfl : r' = r := Option.some.inj (hr'.symm.trans hr)
        rw [er, if_pos (by omega), mid_end (by omega)]
      · have ne : r' ∉ [r] := fun z => by
          have e := List.mem_singleton.mp z
          subst e
          exact c (nodup_inj nd hr' hr)
        have := s' r' _ (by rw [hid_ne ne]; exact rows t r' hr')
        rw [hid_same _ _ _ _ this]
        by_cases d : (t : Int) < w.1 + (j : Nat)
        · rw [if_pos d, if_pos (by omega)]
        · rw [if_neg d, if_neg (by omega)]
  · rintro σ' G ⟨sG, rows, k3, k4, rfl⟩
    wtm_at "s"
    refine q G sG ⟨⟨dx, fs, hid_same _ _ _ _ (sG _ _ hia'), hif⟩, hid_same _ _ _ _ (sG _ _ hup'), hlen, fun t r hr => ?_⟩
    rw [rows t r hr, List.length_map, tiesI_len]
    split
    · rfl
    · rw [row_off (fun z => by have := z.2; omega)]
abbrev sp_Giver_counted_in (K : PySem.W.Frag) (A : Ad) : Sp := fun vs H Q E => ∃ v0 v1 v2, vs = [v0, v1, v2] ∧ pr_Giver_counted_in K A v0 v1 v2 H Q E
theorem ok_Giver_counted_in (T : Txt K mg A) : FnOk P w K mg base CX0 1 A.a_Giver_counted_in A.d_Giver_counted_in ["self", "ties", "i"] (sp_Giver_counted_in K A) := by
  refine T.F_Giver_counted_in.ok sc_Giver_counted_in (fun vs H Q E h => by obtain ⟨v0, v1, v2, rfl, _⟩ := h; rfl) (fun cdv A0 outer s H vs Q E hr h => ?_)
  obtain ⟨v0, v1, v2, rfl, h⟩ := h
  exact ⟨t_Giver_counted_in K A, (pss_one (ps_for PassesOwn.never rfl (pi_list (pv 1)) (pg_name (i := 3) sc_Giver_counted_in.nd rfl (Or.inl rfl))
      (pss_one (ps_for PassesOwn.never rfl (pi_range2 (by rfl) T.z_range (pa_cons (pv 2) (pa_cons (pe_op op_add (pe_glob (v := .int 40) (by rfl) T.c_MOST_WAYS ⟨_, rfl⟩) pe_int) pa_nil))) (pg_name (i := 4) sc_Giver_counted_in.nd rfl (Or.inl rfl))
      (pss_one (q_augL (pe_ix ix_list (pe_fld (pv 0) (by rfl)) (pv 3) (fun _ _ => rfl)) (pv 4) pe_int)))))), pure_Giver_counted_in T h⟩


def pr_Giver_levels (K : PySem.W.Frag) (A : Ad) (v0 : V) (H : Hp) (Q : VK) (_ : XK) : Prop := ∃ (a dx l : Addr) (fs : List (Str × V)) (ys : List V), v0 = .ref a ∧ H a = some (.ins A.c_Giver dx fs) ∧ fs.lookup (Str.ofString "level") = some (.ref l) ∧ H l = some (.lst ys) ∧ ∀ p H', H p = none → Same H H' → H' p = some (.lst ys) → Q (.ref p) H'
def t_Giver_levels (K : PySem.W.Frag) (A : Ad) : TS :=
  (tRet (tCB (rListOf K) (tCons (tFld K (tVar 0) "level") tNil)))
theorem pure_Giver_levels (T : Txt K mg A) {v0 : V} {H : Hp} {Q : VK} {E : XK} (h : pr_Giver_levels K A v0 H Q E) : t_Giver_levels K A ⟨fun _ H' => Q .non H', Q, fun _ _ => False, fun _ _ => False⟩ [some v0] H := by
  obtain ⟨a, dx, l, fs, ys, rfl, ha, hf, hl, q⟩ := h
  unfold t_Giver_levels
  wtm_at "s"
  refine k_gF ha T.K_Giver T.N_Giver_level hf ?_
  wtm_at "s"
  refine k_listN (sl hl) (fun p H1 np s1 e1 => ?_)
  exact q p H1 np s1 e1
abbrev sp_Giver_levels (K : PySem.W.Frag) (A : Ad) : Sp := fun vs H Q E => ∃ v0, vs = [v0] ∧ pr_Giver_levels K A v0 H Q E
theorem ok_Giver_levels (T : Txt K mg A) : FnOk P w K mg base CX0 1 A.a_Giver_levels A.d_Giver_levels ["self"] (sp_Giver_levels K A) := by
  refine T.F_Giver_levels.ok sc_Giver_levels (fun vs H Q E h => by obtain ⟨v0, rfl, _⟩ := h; rfl) (fun cdv A0 outer s H vs Q E hr h => ?_)
  obtain ⟨v0, rfl, h⟩ := h
  exact ⟨t_Giver_levels K A, (pss_one (ps_ret (pe_callTy q_listOf (by rfl) T.z_list (by decide +kernel) (pa_cons (pe_fld (pv 0) (by rfl)) pa_nil)))), pure_Giver_levels T h⟩
def pr_Giver_own_tie (K : PySem.W.Frag) (A : Ad) (v0 v1 : V) (H : Hp) (Q : VK) (_ : XK) : Prop := ∃ (a dx l c : Addr) (fs : List (Str × V)) (ys zs : List V) (k : Nat) (v : V), v0 = .ref a ∧ v1 = .int k ∧ H a = some (.ins A.c_Giver dx fs) ∧ fs.lookup (Str.ofString "come") = some (.ref c) ∧ fs.lookup (Str.ofString "own") = some (.ref l) ∧ H c = some (.lst zs) ∧ H l = some (.lst ys) ∧ k < zs.length ∧ ys[k]? = some v ∧ Q v H
def t_Giver_own_tie (K : PySem.W.Frag) (A : Ad) : TS :=
  (tSeq (tIfS (tOr (tTest (tOp xLt (tVar 1) (tC (.int 0)))) (tTest (tOp xGe (tVar 1) (tCB (rLen K) (tCons (tFld K (tVar 0) "come") tNil))))) tNever tNext)
    (tRet (tOp (rIxL K) (tFld K (tVar 0) "own") (tVar 1))))
theorem pure_Giver_own_tie (T : Txt K mg A) {v0 v1 : V} {H : Hp} {Q : VK} {E : XK} (h : pr_Giver_own_tie K A v0 v1 H Q E) : t_Giver_own_tie K A ⟨fun _ H' => Q .non H', Q, fun _ _ => False, fun _ _ => False⟩ [some v0, some v1] H := by
  obtain ⟨a, dx, l, c, fs, ys, zs, k, v, rfl, rfl, ha, hc, ho, ec, el, hk, hv, q⟩ := h
  unfold t_Giver_own_tie
  wtm_at "s"
  refine k_gF ha T.K_Giver T.N_Giver_come hc ?_
  wtm_at "s"
  refine k_gF ha T.K_Giver T.N_Giver_own ho ?_
  wtm_at "s"
  refine k_ixL (sl el) (atI_nat hv) ?_
  exact q
abbrev sp_Giver_own_tie (K : PySem.W.Frag) (A : Ad) : Sp := fun vs H Q E => ∃ v0 v1, vs = [v0, v1] ∧ pr_Giver_own_tie K A v0 v1 H Q E
theorem ok_Giver_own_tie (T : Txt K mg A) : FnOk P w K mg base CX0 1 A.a_Giver_own_tie A.d_Giver_own_tie ["self", "number"] (sp_Giver_own_tie K A) := by
  refine T.F_Giver_own_tie.ok sc_Giver_own_tie (fun vs H Q E h => by obtain ⟨v0, v1, rfl, _⟩ := h; rfl) (fun cdv A0 outer s H vs Q E hr h => ?_)
  obtain ⟨v0, v1, rfl, h⟩ := h
  exact ⟨t_Giver_own_tie K A, (pss_cons (ps_if (PW.pt (pw_or (pt_cmpR op_lt (pv 1) pe_int (nomark _)) (pw_or1 (pt_cmpR op_ge (pv 1) (pe_callB q_len (by rfl) T.z_len (by decide +kernel) (pa_cons (pe_fld (pv 0) (by rfl)) pa_nil)) (nomark _))))) (pss_one ps_never) pss_nil)
      (pss_one (ps_ret (pe_ix ix_list (pe_fld (pv 0) (by rfl)) (pv 1) (fun _ _ => rfl))))), pure_Giver_own_tie T h⟩


def pr_law_meet (K : PySem.W.Frag) (v0 v1 : V) (H : Hp) (Q : VK) (_ : XK) : Prop := ∃ (p q : Addr) (w v : Int × Int), v0 = .ref p ∧ v1 = .ref q ∧ SqL K H p ((tiesI w).map V.int) ∧ SqL K H q ((tiesI v).map V.int) ∧ w.1 ≤ w.2 ∧ v.1 ≤ v.2 ∧ Q (.bl (decide (max w.1 v.1 ≤ min w.2 v.2))) H
def t_law_meet (K : PySem.W.Frag) : TS :=
  (tRet (tOp xLe (tCB rMax2 (tCons (tOp (rIxL K) (tVar 0) (tC (.int 0))) (tCons (tOp (rIxL K) (tVar 1) (tC (.int 0))) tNil))) (tCB rMin2 (tCons (tOp (rIxL K) (tVar 0) (tUn xNeg (tC (.int 1)))) (tCons (tOp (rIxL K) (tVar 1) (tUn xNeg (tC (.int 1)))) tNil)))))
theorem pure_law_meet {v0 v1 : V} {H : Hp} {Q : VK} {E : XK} (h : pr_law_meet K v0 v1 H Q E) : t_law_meet K ⟨fun _ H' => Q .non H', Q, fun _ _ => False, fun _ _ => False⟩ [some v0, some v1] H := by
  obtain ⟨p, q, w, v, rfl, rfl, hp, hq, hw, hv, k⟩ := h
  unfold t_law_meet
  wtm_at "s"
  refine k_ixL hp (at_first hw) ?_
  wtm_at "s"
  refine k_ixL hq (at_first hv) ?_
  wtm_at "s"
  refine k_ixL hp (at_final hw) ?_
  wtm_at "s"
  refine k_ixL hq (at_final hv) ?_
  wtm_at "s"
  have e : decide ((if v.1 > w.1 then v.1 else w.1) ≤ (if v.2 < w.2 then v.2 else w.2)) = decide (max w.1 v.1 ≤ min w.2 v.2) := by
    refine decide_eq_decide.mpr ?_
    split <;> split <;> omega
  rw [e]
  exact k
abbrev sp_law_meet (K : PySem.W.Frag) : Sp := fun vs H Q E => ∃ v0 v1, vs = [v0, v1] ∧ pr_law_meet K v0 v1 H Q E
theorem ok_law_meet (T : Txt K mg A) : FnOk P w K mg base CX0 1 A.a_law_meet A.d_law_meet ["_law_one", "_law_other"] (sp_law_meet K) := by
  refine T.F_law_meet.ok sc_law_meet (fun vs H Q E h => by obtain ⟨v0, v1, rfl, _⟩ := h; rfl) (fun cdv A0 outer s H vs Q E hr h => ?_)
  obtain ⟨v0, v1, rfl, h⟩ := h
  exact ⟨t_law_meet K, (pss_one (ps_ret (pe_cmpR op_le (pe_callB (q_max2 (by rfl)) (by rfl) T.z_max (by decide +kernel) (pa_cons (pe_ix ix_list (pv 0) pe_int (fun _ _ => rfl)) (pa_cons (pe_ix ix_list (pv 1) pe_int (fun _ _ => rfl)) pa_nil))) (pe_callB (q_min2 (by rfl)) (by rfl) T.z_min (by decide +kernel) (pa_cons (pe_ix ix_list (pv 0) (pe_un un_neg pe_int) (fun _ _ => rfl)) (pa_cons (pe_ix ix_list (pv 1) (pe_un un_neg pe_int) (fun _ _ => rfl)) pa_nil))) (nomark _)))), pure_law_meet h⟩
def pr_law_on (K : PySem.W.Frag) (v0 v1 : V) (H : Hp) (Q : VK) (_ : XK) : Prop := ∃ (p : Addr) (w : Int × Int) (t : Int), v0 = .ref p ∧ v1 = .int t ∧ SqL K H p ((tiesI w).map V.int) ∧ w.1 ≤ w.2 ∧ Q (.bl (decide (onI w t))) H
def t_law_on (K : PySem.W.Frag) : TS :=
  (tRet (tAndV (tOp xLe (tOp (rIxL K) (tVar 0) (tC (.int 0))) (tVar 1)) (tOp xLe (tVar 1) (tOp (rIxL K) (tVar 0) (tUn xNeg (tC (.int 1)))))))
theorem pure_law_on {v0 v1 : V} {H : Hp} {Q : VK} {E : XK} (h : pr_law_on K v0 v1 H Q E) : t_law_on K ⟨fun _ H' => Q .non H', Q, fun _ _ => False, fun _ _ => False⟩ [some v0, some v1] H := by
  obtain ⟨p, w, t, rfl, rfl, hp, hw, k⟩ := h
  unfold t_law_on
  wtm_at "s"
  refine k_ixL hp (at_first hw) ?_
  wtm_at "s"
  refine k_it (fun c => ?_) (fun c => ?_)
  · wtm_at "s"
    refine k_ixL hp (at_final hw) ?_
    wtm_at "s"
    have e : decide (onI w t) = decide (t ≤ w.2) := decide_eq_decide.mpr ⟨fun z => z.2, fun z => ⟨c, z⟩⟩
    rw [e] at k
    exact k
  · have e : decide (onI w t) = false := decide_eq_false fun z => c z.1
    rw [e] at k
    exact k
abbrev sp_law_on (K : PySem.W.Frag) : Sp := fun vs H Q E => ∃ v0 v1, vs = [v0, v1] ∧ pr_law_on K v0 v1 H Q E
theorem ok_law_on (T : Txt K mg A) : FnOk P w K mg base CX0 1 A.a_law_on A.d_law_on ["_law_ties", "_law_tie"] (sp_law_on K) := by
  refine T.F_law_on.ok sc_law_on (fun vs H Q E h => by obtain ⟨v0, v1, rfl, _⟩ := h; rfl) (fun cdv A0 outer s H vs Q E hr h => ?_)
  obtain ⟨v0, v1, rfl, h⟩ := h
  exact ⟨t_law_on K, (pss_one (ps_ret (pe_and (pe_cmpR op_le (pe_ix ix_list (pv 0) pe_int (fun _ _ => rfl)) (pv 1) (nomark _)) (pe_one (pe_cmpR op_le (pv 1) (pe_ix ix_list (pv 0) (pe_un un_neg pe_int) (fun _ _ => rfl)) (nomark _)))))), pure_law_on h⟩
def pr_law_of_level (K : PySem.W.Frag) (v0 v1 : V) (H : Hp) (Q : VK) (_ : XK) : Prop := ∃ (h : Int) (i : Nat), v0 = .int h ∧ v1 = .int i ∧ 1 ≤ i ∧ Q (.bl (decide (h ∈ lvHues i))) H
def t_law_of_level (K : PySem.W.Frag) : TS :=
  (tSeq (tIfS (tTest (tOp rEq (tVar 1) (tC (.int 1)))) (tRet (tOp rEq (tVar 0) (tC (.int 0)))) tNext)
    (tRet (tAndV (tOp xGe (tVar 0) (tOp xSub (tOp xMul (tC (.int 3)) (tVar 1)) (tC (.int 5)))) (tOp xLe (tVar 0) (tOp xSub (tOp xMul (tC (.int 3)) (tVar 1)) (tC (.int 3)))))))
theorem pure_law_of_level {v0 v1 : V} {H : Hp} {Q : VK} {E : XK} (h : pr_law_of_level K v0 v1 H Q E) : t_law_of_level K ⟨fun _ H' => Q .non H', Q, fun _ _ => False, fun _ _ => False⟩ [some v0, some v1] H := by
  obtain ⟨h, i, rfl, rfl, i1, k⟩ := h
  unfold t_law_of_level
  unfold lvHues at k
  wtm_at "s"
  refine k_it (fun c => ?_) (fun c => ?_)
  · rw [if_pos (by omega), show decide (h ∈ [(0 : Int)]) = decide (h = 0) by simp] at k
    wtm_at "s"
    exact k
  · rw [if_neg (by omega)] at k
    wtm_at "s"
    refine k_it (fun c2 => ?_) (fun c2 => ?_)
    · wtm_at "s"
      have e : decide (h ∈ [3 * (i : Int) - 5, 3 * (i : Int) - 4, 3 * (i : Int) - 3]) = decide (h ≤ 3 * (i : Int) - 3) := by
        refine decide_eq_decide.mpr ?_
        simp only [List.mem_cons, List.not_mem_nil, or_false]
        omega
      rw [e] at k
      exact k
    · have e : decide (h ∈ [3 * (i : Int) - 5, 3 * (i : Int) - 4, 3 * (i : Int) - 3]) = false := by
        refine decide_eq_false ?_
        simp only [List.mem_cons, List.not_mem_nil, or_false]
        omega
      rw [e] at k
      exact k
abbrev sp_law_of_level (K : PySem.W.Frag) : Sp := fun vs H Q E => ∃ v0 v1, vs = [v0, v1] ∧ pr_law_of_level K v0 v1 H Q E
theorem ok_law_of_level (T : Txt K mg A) : FnOk P w K mg base CX0 1 A.a_law_of_level A.d_law_of_level ["_law_hue", "_law_level"] (sp_law_of_level K) := by
  refine T.F_law_of_level.ok sc_law_of_level (fun vs H Q E h => by obtain ⟨v0, v1, rfl, _⟩ := h; rfl) (fun cdv A0 outer s H vs Q E hr h => ?_)
  obtain ⟨v0, v1, rfl, h⟩ := h
  exact ⟨t_law_of_level K, (pss_cons (ps_if (pt_cmpR op_eq (pv 1) pe_int (nomark _)) (pss_one (ps_ret (pe_cmpR op_eq (pv 0) pe_int (nomark _)))) pss_nil)
      (pss_one (ps_ret (pe_and (pe_cmpR op_ge (pv 0) (pe_op op_sub (pe_op op_mul pe_int (pv 1)) pe_int) (nomark _)) (pe_one (pe_cmpR op_le (pv 0) (pe_op op_sub (pe_op op_mul pe_int (pv 1)) pe_int) (nomark _))))))), pure_law_of_level h⟩


/-- one of the level's hues is free -/
theorem free_hue {es : List Ent} {w : Int × Int} {i : Nat} (g : GoodE (es ++ [(w, i)])) (hs : List Int) : ∃ h ∈ lvHues i, ∀ k v, es[k]? = some (v, i) → meetI v w → hs.getD k 0 ≠ h := by
  have hn : (es ++ [(w, i)])[es.length]? = some (w, i) := by rw [List.getElem?_append_right (Nat.le_refl _)]; simp
  have up : ∀ k v, es[k]? = some (v, i) → (es ++ [(w, i)])[k]? = some (v, i) ∧ k < es.length := fun k v h => by
    have hk := (List.getElem?_eq_some_iff.mp h).1
    exact ⟨by rw [List.getElem?_append_left hk]; exact h, hk⟩
  by_cases c : i = 1
  · subst c
    exact ⟨0, by unfold lvHues; simp, fun k v hk hm => absurd (one_alone g hn (up k v hk).1 (up k v hk).2 hm) id⟩
  · have eL : lvHues i = [3 * (i : Int) - 5, 3 * (i : Int) - 4, 3 * (i : Int) - 3] := by unfold lvHues; rw [if_neg c]
    refine Classical.byContradiction fun z => ?_
    have ex : ∀ h ∈ lvHues i, ∃ k v, es[k]? = some (v, i) ∧ meetI v w ∧ hs.getD k 0 = h := fun h hh => Classical.byContradiction fun y => z ⟨h, hh, fun k v h1 h2 h3 => y ⟨k, v, h1, h2, h3⟩⟩
    rw [eL] at ex
    obtain ⟨a, x, a1, a2, a3⟩ := ex (3 * (i : Int) - 5) (by simp)
    obtain ⟨b, y, b1, b2, b3⟩ := ex (3 * (i : Int) - 4) (by simp)
    obtain ⟨d, u, d1, d2, d3⟩ := ex (3 * (i : Int) - 3) (by simp)
    have la := (up a x a1).2
    have lb := (up b y b1).2
    have ld := (up d u d1).2
    refine no_three g hn (up a x a1).1 (up b y b1).1 (up d u d1).1 (by omega) (by omega) (by omega) a2 b2 d2 (fun e => ?_) (fun e => ?_) (fun e => ?_)
    · rw [e, b3] at a3; omega
    · rw [e, d3] at a3; omega
    · rw [e, d3] at b3; omega
theorem ss_ext : ∀ {xs ys : List Int}, xs.Pairwise (· < ·) → ys.Pairwise (· < ·) → (∀ t, t ∈ xs ↔ t ∈ ys) → xs = ys
  | [], [], _, _, _ => rfl
  | [], y :: ys, _, _, h => by have := (h y).mpr List.mem_cons_self; cases this
  | x :: xs, [], _, _, h => by have := (h x).mp List.mem_cons_self; cases this
  | x :: xs, y :: ys, h1, h2, h => by
    obtain ⟨a1, a2⟩ := List.pairwise_cons.mp h1
    obtain ⟨b1, b2⟩ := List.pairwise_cons.mp h2
    have e : x = y := by
      rcases List.mem_cons.mp ((h x).mp List.mem_cons_self) with e | e
      · exact e
      · rcases List.mem_cons.mp ((h y).mpr List.mem_cons_self) with e' | e'
        · exact e'.symm
        · have := b1 _ e; have := a1 _ e'; omega
    subst e
    congr 1
    refine ss_ext a2 b2 fun t => ?_
    constructor
    · intro ht
      rcases List.mem_cons.mp ((h t).mp (List.mem_cons_of_mem _ ht)) with e | e
      · have := a1 _ ht; omega
      · exact e
    · intro ht
      rcases List.mem_cons.mp ((h t).mpr (List.mem_cons_of_mem _ ht)) with e | e
      · have := b1 _ ht; omega
      · exact e
theorem tiesI_srt (w : Int × Int) : (tiesI w).Pairwise (· < ·) := by
  unfold tiesI
  rw [List.pairwise_map]
  exact List.pairwise_lt_range.imp fun h => by omega
theorem line_ties {n a b : Int} {ns : List Int} (h : TiesOf (.line n) a b ns) : ns = tiesI (min a b, max a b - 1) := by
  refine ss_ext h.srt (tiesI_srt _) fun t => ?_
  rw [tiesI_mem, h.mem]
  show (min a b ≤ t ∧ t < max a b) ↔ _
  simp only
  omega


instance (w v : Int × Int) : Decidable (meetI w v) := inferInstanceAs (Decidable (max w.1 v.1 ≤ min w.2 v.2))
/-- the places of a Giver -/
structure Gv where
  a : Addr
  dx : Addr
  nt : Addr
  cm : Addr
  ln : Addr
  gv : Addr
  lv : Addr
  ow : Addr
  up : Addr
  rs : List Addr
def Gv.cells (g : Gv) : List Addr := g.up :: (g.rs ++ [g.ow, g.lv, g.gv, g.ln, g.cm, g.nt, g.a])
def tieW (w : Int × Int) : Int × Int := (min w.1 w.2, max w.1 w.2 - 1)
/-- a Giver to which ways have come -/
structure GvAt (K : PySem.W.Frag) (A : Ad) (H : Hp) (g : Gv) (n : Int) (ws : List (Int × Int)) (es : List Ent) (hs os : List Int) : Prop where
  nd : g.cells.Nodup
  n2 : 2 ≤ n
  n60 : n ≤ 60
  ins : H g.a = some (.ins A.c_Giver g.dx (gvF g.nt g.cm g.ln g.gv g.lv g.ow g.up))
  net : H g.nt = some (.tup [.str (Str.ofString "line"), .int n])
  come : ∃ ys, H g.cm = some (.lst ys) ∧ DpAll K (hid g.cells H) ys (ws.map dPair)
  lain : ∃ zs : List Addr, H g.ln = some (.lst (zs.map V.ref)) ∧ zs.length = es.length ∧ ∀ (k : Nat) z e, zs[k]? = some z → es[k]? = some e → z ∉ g.cells ∧ H z = some (.lst ((tiesI e.1).map V.int))
  given : H g.gv = some (.lst (hs.map V.int))
  lev : H g.lv = some (.lst (List.map V.int (es.map fun e => (e.2 : Int))))
  own : H g.ow = some (.lst (os.map V.int))
  up_ : UpAt K A H g.a g.up g.rs n es
theorem GvAt.same {H H' : Hp} {g : Gv} {n : Int} {ws : List (Int × Int)} {es : List Ent} {hs os : List Int} (h : GvAt K A H g n ws es hs os) (s : Same H H') : GvAt K A H' g n ws es hs os := by
  obtain ⟨h1, h2, h3, h4, h5, ⟨ys, h6, h6'⟩, ⟨zs, h7, h7', h7''⟩, h8, h9, h10, h11⟩ := h
  exact ⟨h1, h2, h3, s _ _ h4, s _ _ h5, ⟨ys, s _ _ h6, dpa_same (hid_mono s) h6'⟩, ⟨zs, s _ _ h7, h7', fun k z e hz he => ⟨(h7'' k z e hz he).1, s _ _ (h7'' k z e hz he).2⟩⟩, s _ _ h8, s _ _ h9, s _ _ h10, h11.same s⟩
/-- what is true of the ways, levels, hues and own ties -/
structure GvOk (n : Int) (ws : List (Int × Int)) (es : List Ent) (hs os : List Int) : Prop where
  good : GoodE es
  tie : es.map (·.1) = ws.map tieW
  wok : ∀ w ∈ ws, isWay (.line n) w.1 w.2
  lh : hs.length = es.length
  lo : os.length = es.length
  hue : ∀ (k : Nat) e h, es[k]? = some e → hs[k]? = some h → h ∈ lvHues e.2
  right : ∀ (j k : Nat) e f, j < k → es[j]? = some e → es[k]? = some f → meetI e.1 f.1 → hs[j]? ≠ hs[k]?
  own : ∀ (k : Nat) e t, es[k]? = some e → os[k]? = some t → OwnOf (es.take k) e.1 e.2 t
theorem tieW_ok {n a b : Int} (h : isWay (.line n) a b) : 0 ≤ (tieW (a, b)).1 ∧ (tieW (a, b)).1 ≤ (tieW (a, b)).2 ∧ (tieW (a, b)).2 < n - 1 := by
  obtain ⟨h1, h2, h3, h4, h5⟩ := h
  have h4' : a < n := h4
  have h5' : b < n := h5
  unfold tieW
  simp only
  omega
theorem snoc_get {α : Type} {l : List α} {x y : α} {k : Nat} (h : (l ++ [x])[k]? = some y) : (k < l.length ∧ l[k]? = some y) ∨ (k = l.length ∧ y = x) := by
  by_cases c : k < l.length
  · rw [List.getElem?_append_left c] at h
    exact .inl ⟨c, h⟩
  · have := (List.getElem?_eq_some_iff.mp h).1
    simp at this
    have e : k = l.length := by omega
    subst e
    rw [List.getElem?_append_right (Nat.le_refl _)] at h
    simp at h
    exact .inr ⟨rfl, h.symm⟩
theorem GvOk.more {n : Int} {ws : List (Int × Int)} {es : List Ent} {hs os : List Int} {a b h t : Int} {i : Nat} (o : GvOk n ws es hs os) (w : isWay (.line n) a b) (l : LevelOf es (tieW (a, b)) i) (hh : h ∈ lvHues i)
    (hr : ∀ (k : Nat) v, es[k]? = some v → meetI v.1 (tieW (a, b)) → hs[k]? ≠ some h) (ho : OwnOf es (tieW (a, b)) i t) : GvOk n (ws ++ [(a, b)]) (es ++ [(tieW (a, b), i)]) (hs ++ [h]) (os ++ [t]) := by
  obtain ⟨g, ti, wok, lh, lo, hue, right, own⟩ := o
  refine ⟨good_more g (tieW_ok w).2.1 l, by rw [List.map_append, List.map_append, ti]; rfl, ?_, by simp [lh], by simp [lo], ?_, ?_, ?_⟩
  · intro v hv
    rcases List.mem_append.mp hv with hv | hv
    · exact wok v hv
    · rw [List.mem_singleton.mp hv]; exact w
  · intro k e x he hx
    rcases snoc_get he with ⟨c, he⟩ | ⟨c, rfl⟩
    · rw [List.getElem?_append_left (by omega)] at hx
      exact hue k e x he hx
    · rcases snoc_get hx with ⟨d, _⟩ | ⟨_, rfl⟩
      · omega
      · exact hh
  · intro j k e f jk he hf m
    rcases snoc_get hf with ⟨c, hf⟩ | ⟨c, rfl⟩
    · rcases snoc_get he with ⟨d, he⟩ | ⟨d, _⟩
      · rw [List.getElem?_append_left (by omega), List.getElem?_append_left (by omega)]
        exact right j k e f jk he hf m
      · omega
    · rcases snoc_get he with ⟨d, he⟩ | ⟨d, _⟩
      · rw [List.getElem?_append_left (by omega)]
        have := hr j e he m
        rw [c, ← lh, List.getElem?_append_right (Nat.le_refl _)]
        simpa using this
      · omega
  · intro k e x he hx
    rcases snoc_get he with ⟨c, he⟩ | ⟨c, rfl⟩
    · rw [List.getElem?_append_left (by omega)] at hx
      rw [List.take_append_of_le_length (by omega)]
      exact own k e x he hx
    · rcases snoc_get hx with ⟨d, _⟩ | ⟨_, rfl⟩
      · omega
      · subst c
        rw [List.take_left]
        exact ho
theorem hid_comm (S T : List Addr) (H : Hp) : hid S (hid T H) = hid T (hid S H) := by
  funext b
  unfold hid
  split <;> split <;> rfl
theorem hid_under {S T : List Addr} {H H' : Hp} (s : Same (hid S H) (hid S H')) : Same (hid S (hid T H)) (hid S (hid T H')) := by
  rw [hid_comm S T H, hid_comm S T H']
  exact hid_mono s
/-- the hue of a way of the level that meets the way -/
def takenAt (es : List Ent) (hs : List Int) (i : Nat) (w : Int × Int) (k : Nat) : Option Int := match es[k]? with
  | some e => if e.2 = i ∧ meetI e.1 w then some (hs.getD k 0) else none
  | none => none
theorem lv_apart {i j : Nat} {h : Int} (i1 : 1 ≤ i) (j1 : 1 ≤ j) (hi : h ∈ lvHues i) (hj : h ∈ lvHues j) : i = j := by
  unfold lvHues at hi hj
  split at hi <;> split at hj <;> simp only [List.mem_cons, List.not_mem_nil, or_false] at hi hj <;> omega
theorem taken_fm (l ts : List Int) : l.filterMap (fun x => if x ∈ ts then none else some (V.int x)) = (l.filter fun x => decide (x ∉ ts)).map V.int := by
  induction l with
  | nil => rfl
  | cons x r ih =>
    by_cases c : x ∈ ts
    · rw [List.filterMap_cons, if_pos c, List.filter_cons, if_neg (by simpa using c)]; exact ih
    · rw [List.filterMap_cons, if_neg c, List.filter_cons, if_pos (by simpa using c), List.map_cons, ← ih]
theorem hue_found {n : Int} {ws : List (Int × Int)} {es : List Ent} {hs os : List Int} {w : Int × Int} {i m : Nat} (o : GvOk n ws es hs os) (w1 : w.1 ≤ w.2) (l : LevelOf es w i) (hm : m = es.length) :
    ∃ hue, hue ∈ lvHues i ∧ (∀ (k : Nat) v, es[k]? = some v → meetI v.1 w → hs[k]? ≠ some hue) ∧ atI (List.filterMap (fun x => if x ∈ (List.range m).filterMap (takenAt es hs i w) then none else some (V.int x)) (lvHues i)) 0 = some (.int hue) := by
  subst hm
  have inT : ∀ (k : Nat) v, es[k]? = some v → v.2 = i → meetI v.1 w → hs.getD k 0 ∈ (List.range es.length).filterMap (takenAt es hs i w) := fun k v hk hv hme => by
    rw [List.mem_filterMap]
    refine ⟨k, List.mem_range.mpr (List.getElem?_eq_some_iff.mp hk).1, ?_⟩
    unfold takenAt
    simp only [hk]
    rw [if_pos ⟨hv, hme⟩]
  have toT : ∀ x, x ∈ (List.range es.length).filterMap (takenAt es hs i w) → ∃ (k : Nat) (v : Int × Int), es[k]? = some (v, i) ∧ meetI v w ∧ hs.getD k 0 = x := fun x hx => by
    obtain ⟨k, hk, e⟩ := List.mem_filterMap.mp hx
    unfold takenAt at e
    split at e
    · rename_i v hv
      split at e
      · rename_i c
        obtain ⟨v1, v2⟩ := v
        obtain ⟨c1, c2⟩ := c
        simp only at c1
        subst c1
        exact ⟨k, v1, hv, c2, by simpa using e⟩
      · cases e
    · cases e
  rw [taken_fm]
  obtain ⟨f, hf, ff⟩ := free_hue (good_more o.good w1 l) hs
  generalize (List.range es.length).filterMap (takenAt es hs i w) = ts at inT toT
  have ne : f ∈ (lvHues i).filter fun x => decide (x ∉ ts) := by
    rw [List.mem_filter]
    refine ⟨hf, by
      simp only [decide_eq_true_eq]
      intro z
      obtain ⟨k, v, h1, h2, h3⟩ := toT f z
      exact ff k v h1 h2 h3⟩
  cases hL : (lvHues i).filter fun x => decide (x ∉ ts) with
  | nil => rw [hL] at ne; cases ne
  | cons h r =>
    have hm : h ∈ (lvHues i).filter fun x => decide (x ∉ ts) := by rw [hL]; exact List.mem_cons_self
    obtain ⟨hm1, hm2⟩ := List.mem_filter.mp hm
    simp only [decide_eq_true_eq] at hm2
    refine ⟨h, hm1, fun k v hk hme e => ?_, by
      have := at_int (ns := h :: r) (i := 0) (by decide) (by simp)
      rw [this]; rfl⟩
    by_cases c : v.2 = i
    · refine hm2 ?_
      have := inT k v hk c hme
      rwa [List.getD_eq_getElem?_getD, e] at this
    · exact c (lv_apart (good_pos o.good v (List.mem_of_getElem? hk)) l.1 (o.hue k v h hk e) hm1)
def pr_Giver_put (K : PySem.W.Frag) (A : Ad) (v0 v1 : V) (H : Hp) (Q : VK) (_ : XK) : Prop := ∃ (g : Gv) (n : Int) (T : List Addr) (ws : List (Int × Int)) (es : List Ent) (hs os : List Int) (a b : Int), v0 = .ref g.a ∧ GvAt K A (hid T H) g n ws es hs os ∧ GvOk n ws es hs os ∧ (∀ x ∈ T, H x ≠ none) ∧ Dp K (hid g.cells H) v1 (dPair (a, b)) ∧ isWay (.line n) a b ∧ es.length < 40 ∧
  ∀ (h : Int) (i : Nat) (t : Int) H', Same (hid g.cells H) (hid g.cells H') → LevelOf es (tieW (a, b)) i → i ≤ 41 → GvAt K A (hid T H') g n (ws ++ [(a, b)]) (es ++ [(tieW (a, b), i)]) (hs ++ [h]) (os ++ [t]) → GvOk n (ws ++ [(a, b)]) (es ++ [(tieW (a, b), i)]) (hs ++ [h]) (os ++ [t]) → Q (.int h) H'
def t_Giver_put (K : PySem.W.Frag) (A : Ad) : TS :=
  (tSeq (tIfS (tNot (tB (tCall (sp_is_way K) [] E0 (tCons (tFld K (tVar 0) "net") (tCons (tVar 1) tNil))))) tNever tNext)
    (tSeq (tIfS (tTest (tOp rEq (tCB (rLen K) (tCons (tFld K (tVar 0) "come") tNil)) (tC (.int 40)))) tNever tNext)
    (tSeq (tAsg (tCall (sp_ties_on K) [] E0 (tCons (tFld K (tVar 0) "net") (tCons (tVar 1) tNil))) (gName 2))
    (tSeq (tAsg (tMeth A.c_Giver "level_for" (sp_Giver_level_for K A) [] E0 (tVar 0) (tCons (tVar 2) tNil)) (gName 3))
    (tSeq (tAsg (tLc (iRng1 (tCons (tCB (rLen K) (tCons (tFld K (tVar 0) "come") tNil)) tNil)) (gName 6) (tAnd (tTest (tOp rEq (tOp (rIxL K) (tFld K (tVar 0) "level") (tVar 6)) (tVar 3))) (tB (tCall (sp_meet K) [] E0 (tCons (tVar 2) (tCons (tOp (rIxL K) (tFld K (tVar 0) "lain") (tVar 6)) tNil))))) (tOp (rIxL K) (tFld K (tVar 0) "given") (tVar 6)) [6]) (gName 4))
    (tSeq (tAsg (tOp (rIxL K) (tLc (iList K (tCall (sp_hues_of K) [] E0 (tCons (tVar 3) tNil))) (gName 7) (tTest (tOp (rIn K true) (tVar 7) (tVar 4))) (tVar 7) [7]) (tC (.int 0))) (gName 5))
    (tSeq (tDrop (tBM K "list" rAppend (tFld K (tVar 0) "own") (tCons (tMeth A.c_Giver "own_for" (sp_Giver_own_for K A) [] E0 (tVar 0) (tCons (tVar 2) (tCons (tVar 3) tNil))) tNil)))
    (tSeq (tDrop (tMeth A.c_Giver "counted_in" (sp_Giver_counted_in K A) [] E0 (tVar 0) (tCons (tVar 2) (tCons (tVar 3) tNil))))
    (tSeq (tDrop (tBM K "list" rAppend (tFld K (tVar 0) "come") (tCons (tTup (tCons (tOp (rIxT K) (tVar 1) (tC (.int 0))) (tCons (tOp (rIxT K) (tVar 1) (tC (.int 1))) tNil))) tNil)))
    (tSeq (tDrop (tBM K "list" rAppend (tFld K (tVar 0) "lain") (tCons (tVar 2) tNil)))
    (tSeq (tDrop (tBM K "list" rAppend (tFld K (tVar 0) "given") (tCons (tVar 5) tNil)))
    (tSeq (tDrop (tBM K "list" rAppend (tFld K (tVar 0) "level") (tCons (tVar 3) tNil)))
    (tRet (tVar 5))))))))))))))
theorem pure_Giver_put (T : Txt K mg A) {v0 v1 : V} {H : Hp} {Q : VK} {E : XK} (h : pr_Giver_put K A v0 v1 H Q E) : t_Giver_put K A ⟨fun _ H' => Q .non H', Q, fun _ _ => False, fun _ _ => False⟩ [some v0, some v1, none, none, none, none, none, none] H := by
  obtain ⟨g, n, TT, ws, es, hs, os, a, b, rfl, gaT, gok, hT, dw, wok, le, q⟩ := h
  have ga := gaT.same (hid_same _ _)
  have dw0 := dp_same (hid_same _ _) dw
  obtain ⟨w0, w1, w2⟩ := tieW_ok wok
  obtain ⟨pw, rfl, hw⟩ := dp_pair dw
  have inT : ∀ x o, hid TT H x = some o → x ∉ TT := fun x o h => (hid_some h).1
  have newT : ∀ x, H x = none → x ∉ TT := fun x h z => hT x z h
  have dnet : ∀ H', Same H H' → Dp K H' (.ref g.nt) (Net.line n).d := fun H' s => .tup (stp (s _ _ ga.net)) (.cons (.str _) (.cons (.int _) .nil))
  have nok : (Net.line n).ok := ⟨ga.n2, ga.n60⟩
  obtain ⟨ys, ecm, dys⟩ := ga.come
  obtain ⟨zs, eln, lzs, ezs⟩ := ga.lain
  have ly : ys.length = es.length := by
    have e1 := dpa_len dys
    have e2 := congrArg List.length gok.tie
    simp only [List.length_map] at e1 e2
    omega
  unfold t_Giver_put
  wtm_at "s"
  refine k_gF ga.ins T.K_Giver T.N_Giver_net rfl ?_
  wtm_at "s"
  refine ⟨_, _, rfl, .line n, a, b, dnet _ (Same.refl _), dw0, ?_⟩
  rw [decide_eq_true wok]
  wtm_at "s"
  refine k_gF ga.ins T.K_Giver T.N_Giver_come rfl ?_
  wtm_at "s"
  refine k_gF ga.ins T.K_Giver T.N_Giver_net rfl ?_
  wtm_at "s"
  refine ⟨_, _, rfl, .line n, a, b, dnet _ (Same.refl _), dw0, nok, wok, fun p ns H1 np s1 e1 tn => ?_⟩
  obtain rfl := line_ties tn
  change H1 p = some (.lst (List.map V.int (tiesI (tieW (a, b))))) at e1
  wtm_at "s"
  refine k_mF (s1 _ _ ga.ins) rfl ?_
  wtm_at "s"
  refine ⟨_, _, rfl, g.a, g.up, p, g.rs, n, es, tieW (a, b), rfl, rfl, ga.up_.same s1, sl e1, w0, w1, w2, ga.n60, by omega, fun i H2 lvl hi s2 => ?_⟩
  have s02 := s1.trans s2
  have i1 := lvl.1
  have e2 := s2 _ _ e1
  wtm_at "s"
  refine k_gF (s02 _ _ ga.ins) T.K_Giver T.N_Giver_come rfl ?_
  wtm_at "s"
  refine lc_pureR (by omega) (fun k => (takenAt es hs i (tieW (a, b)) k).map V.int) ?_ (fun D H3 nD s3 eD => ?_)
  · intro k H' hk sm R R0 h1 h2
    have hk' : k < es.length := by omega
    obtain ⟨e, he⟩ : ∃ e, es[k]? = some e := ⟨es[k], List.getElem?_eq_getElem hk'⟩
    obtain ⟨z, hz⟩ : ∃ z, zs[k]? = some z := ⟨zs[k]'(by omega), List.getElem?_eq_getElem (by omega)⟩
    obtain ⟨_, ez⟩ := ezs k z e hz he
    have s0 := s02.trans sm
    simp only [takenAt, he] at h1 h2
    rw [Int.zero_add]
    wtm_at "s"
    refine k_gF (s0 _ _ ga.ins) T.K_Giver T.N_Giver_level rfl ?_
    wtm_at "s"
    refine k_ixN (sl (s0 _ _ ga.lev)) (by rw [List.getElem?_map, he]; rfl) ?_
    wtm_at "s"
    refine k_it (fun c1 => ?_) (fun c1 => ?_)
    · wtm_at "s"
      refine k_gF (s0 _ _ ga.ins) T.K_Giver T.N_Giver_lain rfl ?_
      wtm_at "s"
      refine k_ixL (sl (s0 _ _ eln)) (atI_nat (by rw [List.getElem?_map, hz]; rfl)) ?_
      wtm_at "s"
      have we := (gok.good k e.1 e.2 he).1
      refine ⟨_, _, rfl, p, z, tieW (a, b), e.1, rfl, rfl, sl ((s2.trans sm) _ _ e1), sl (s0 _ _ ez), w1, we, ?_⟩
      wtm_at "s"
      refine k_it (fun c2 => ?_) (fun c2 => ?_)
      · wtm_at "s"
        refine k_gF (s0 _ _ ga.ins) T.K_Giver T.N_Giver_given rfl ?_
        wtm_at "s"
        refine k_ixI (sl (s0 _ _ ga.given)) (by omega) (by have := gok.lh; omega) ?_
        rw [Int.toNat_natCast]
        have c1' : (e.2 : Int) = i := c1
        exact h1 _ (by rw [if_pos ⟨by omega, by unfold meetI; omega⟩]; rfl)
      · exact h2 (by rw [if_neg fun z => c2 (by have := z.2; unfold meetI at this; omega)]; rfl)
    · exact h2 (by rw [if_neg fun z => c1 (show (e.2 : Int) = i by have := z.1; omega)]; rfl)
  rw [← List.map_filterMap, Int.toNat_natCast] at eD
  wtm_at "s"
  refine ⟨_, rfl, i, rfl, i1, fun p4 H4 np4 s4 e4 => ?_⟩
  wtm_at "s"
  refine lc_pure (sl e4) (lvHues i) (by simp) (by unfold lvHues; split <;> simp) (fun x => if x ∈ (List.range ys.length).filterMap (takenAt es hs i (tieW (a, b))) then none else some (V.int x)) ?_ (fun D2 H5 nD2 s5 eD2 => ?_)
  · intro j x y H' hx hy sm R R0 h1 h2
    rw [List.getElem?_map, hy] at hx
    cases hx
    wtm_at "s"
    refine k_itn (fun c => ?_) (fun c => ?_)
    · wtm_at "s"
      exact h1 _ (if_neg c)
    · exact h2 (if_pos c)
  obtain ⟨hue, hh, hfree, hat0⟩ := hue_found gok w1 lvl ly
  wtm_at "s"
  refine k_ixL (sl eD2) hat0 ?_
  have s25 := s3.trans (s4.trans s5)
  have s05 := s02.trans s25
  have e5 := s25 _ _ e2
  clear hat0 eD2 nD2 eD e4 np4 nD
  wtm_at "s"
  refine k_gF (s05 _ _ ga.ins) T.K_Giver T.N_Giver_own rfl ?_
  refine k_tyL (sl (s05 _ _ ga.own)) ?_
  wtm_at "s"
  refine k_mF (s05 _ _ ga.ins) rfl ?_
  wtm_at "s"
  refine ⟨_, _, _, rfl, g.a, g.up, p, g.rs, n, es, tieW (a, b), i, rfl, rfl, rfl, ga.up_.same s05, sl e5, w0, w1, w2, ga.n60, by omega, lvl, by omega, good_pos gok.good, fun t ho => ?_⟩
  wtm_at "s"
  refine k_append (s05 _ _ ga.own) (by rw [List.length_map]; have := gok.lo; omega) ?_
  wtm_at "s"
  have nd := ga.nd
  unfold Gv.cells at nd
  simp only [List.nodup_cons, List.nodup_append, List.mem_append, List.mem_cons, List.not_mem_nil, or_false, not_or, not_false_eq_true, List.nodup_nil, and_true] at nd
  obtain ⟨⟨u_rs, u_ow, u_lv, u_gv, u_ln, u_cm, u_nt, u_a⟩, nrs, ⟨⟨ow_lv, ow_gv, ow_ln, ow_cm, ow_nt, ow_a⟩, ⟨lv_gv, lv_ln, lv_cm, lv_nt, lv_a⟩, ⟨gv_ln, gv_cm, gv_nt, gv_a⟩, ⟨ln_cm, ln_nt, ln_a⟩, ⟨cm_nt, cm_a⟩, nt_a⟩, dis⟩ := nd
  have ow_rs : g.ow ∉ g.rs := fun z => dis _ z _ (.inl rfl) rfl
  have lv_rs : g.lv ∉ g.rs := fun z => dis _ z _ (.inr (.inl rfl)) rfl
  have gv_rs : g.gv ∉ g.rs := fun z => dis _ z _ (.inr (.inr (.inl rfl))) rfl
  have ln_rs : g.ln ∉ g.rs := fun z => dis _ z _ (.inr (.inr (.inr (.inl rfl)))) rfl
  have cm_rs : g.cm ∉ g.rs := fun z => dis _ z _ (.inr (.inr (.inr (.inr (.inl rfl))))) rfl
  have nt_rs : g.nt ∉ g.rs := fun z => dis _ z _ (.inr (.inr (.inr (.inr (.inr (.inl rfl)))))) rfl
  have a_rs : g.a ∉ g.rs := fun z => dis _ z _ (.inr (.inr (.inr (.inr (.inr (.inr rfl)))))) rfl
  have inC : ∀ x o, hid TT H x = some o → H x ≠ none := fun x o h => by rw [hid_same _ _ _ _ h]; simp
  have pC : p ∉ g.cells := fun z => by
    unfold Gv.cells at z
    simp only [List.mem_append, List.mem_cons, List.not_mem_nil, or_false] at z
    rcases z with rfl | z | rfl | rfl | rfl | rfl | rfl | rfl | rfl
    · rw [ga.up_.up_] at np; cases np
    · obtain ⟨j, hj⟩ := List.mem_iff_getElem?.mp z
      rw [ga.up_.row j p hj] at np; cases np
    · rw [ga.own] at np; cases np
    · rw [ga.lev] at np; cases np
    · rw [ga.given] at np; cases np
    · rw [eln] at np; cases np
    · rw [ecm] at np; cases np
    · rw [ga.net] at np; cases np
    · rw [ga.ins] at np; cases np
  have cin : ∀ x, x ∈ g.rs ∨ x = g.up ∨ x = g.ow ∨ x = g.lv ∨ x = g.gv ∨ x = g.ln ∨ x = g.cm ∨ x = g.nt ∨ x = g.a → x ∈ g.cells := fun x h => by
    unfold Gv.cells
    simp only [List.mem_append, List.mem_cons, List.not_mem_nil, or_false]
    rcases h with h | h | h
    · exact .inr (.inl h)
    · exact .inl h
    · exact .inr (.inr h)
  have p_ow : p ≠ g.ow := fun e => pC (cin p (.inr (.inr (.inl e))))
  have p_rs : p ∉ g.rs := fun e => pC (cin p (.inl e))
  have mid : UpAt K A (upd H5 g.ow (.lst (List.map V.int os ++ [.int t]))) g.a g.up g.rs n es := by
    obtain ⟨⟨dx, fs, h1, h2⟩, h3, h4, h5⟩ := ga.up_.same s05
    refine ⟨⟨dx, fs, ?_, h2⟩, ?_, h4, fun j r hr => ?_⟩
    · rw [upd_ne (Ne.symm ow_a)]; exact h1
    · rw [upd_ne u_ow]; exact h3
    · rw [upd_ne (fun e => ow_rs (by rw [← e]; exact List.mem_of_getElem? hr))]; exact h5 j r hr
  have keep6 : ∀ x o, x ≠ g.ow → H5 x = some o → upd H5 g.ow (.lst (List.map V.int os ++ [.int t])) x = some o := fun x o n h => by rw [upd_ne n]; exact h
  have S6 : Same (hid g.cells H) (hid g.cells (upd H5 g.ow (.lst (List.map V.int os ++ [.int t])))) := by
    rw [hid_upd (cin _ (.inr (.inr (.inl rfl))))]; exact hid_mono s05
  have e6o : upd H5 g.ow (.lst (List.map V.int os ++ [.int t])) g.ow = some (.lst (List.map V.int (os ++ [t]))) := by rw [upd_same, List.map_append]; rfl
  generalize upd H5 g.ow (.lst (List.map V.int os ++ [.int t])) = H6 at mid keep6 S6 e6o ⊢
  refine k_mF (keep6 _ _ (Ne.symm ow_a) (s05 _ _ ga.ins)) rfl ?_
  wtm_at "s"
  refine ⟨_, _, _, rfl, g.a, g.up, p, g.rs, n, es, tieW (a, b), i, rfl, rfl, rfl, mid, keep6 _ _ p_ow e5, a_rs, u_rs, p_rs, nrs, w0, w1, w2, ga.n60, by omega, by omega, fun H7 S7 up7 => ?_⟩
  have keep7 : ∀ x o, x ≠ g.ow → x ∉ g.rs → H5 x = some o → H7 x = some o := fun x o n1 n2 h => keeps S7 (keep6 x o n1 h) n2
  have S07 : Same (hid g.cells H) (hid g.cells H7) := S6.trans (hid_more S7 fun x hx => cin x (.inl hx))
  wtm_at "s"
  refine k_gF (keep7 _ _ (Ne.symm ow_a) a_rs (s05 _ _ ga.ins)) T.K_Giver T.N_Giver_come rfl ?_
  have ecm7 := keep7 _ _ (Ne.symm ow_cm) cm_rs (s05 _ _ ecm)
  refine k_tyL (sl ecm7) ?_
  have hw7 : SqT K H7 pw [.int a, .int b] := same_seqT (S07.trans (hid_same _ _)) hw
  wtm_at "s"
  refine kT (by simp) (fun r H8 nr s8 er => ?_)
  have kp8 : ∀ x o, x ≠ g.ow → x ∉ g.rs → H5 x = some o → H8 x = some o := fun x o n1 n2 h => s8 _ _ (keep7 x o n1 n2 h)
  have S08 := S07.trans (hid_mono (S := g.cells) s8)
  have ecm8 := s8 _ _ ecm7
  wtm_at "s"
  refine k_append ecm8 (by omega) ?_
  have ins8 := kp8 _ _ (Ne.symm ow_a) a_rs (s05 _ _ ga.ins)
  have eln8 := kp8 _ _ (Ne.symm ow_ln) ln_rs (s05 _ _ eln)
  have egv8 := kp8 _ _ (Ne.symm ow_gv) gv_rs (s05 _ _ ga.given)
  have elv8 := kp8 _ _ (Ne.symm ow_lv) lv_rs (s05 _ _ ga.lev)
  wtm_at "s"
  refine k_gF (by rw [upd_ne (Ne.symm cm_a)]; exact ins8) T.K_Giver T.N_Giver_lain rfl ?_
  refine k_tyL (sl (show upd H8 g.cm (.lst (ys ++ [.ref r])) g.ln = _ by rw [upd_ne ln_cm]; exact eln8)) ?_
  wtm_at "s"
  refine k_append (show upd H8 g.cm (.lst (ys ++ [.ref r])) g.ln = _ by rw [upd_ne ln_cm]; exact eln8) (by rw [List.length_map]; omega) ?_
  wtm_at "s"
  refine k_gF (by rw [upd_ne (Ne.symm ln_a), upd_ne (Ne.symm cm_a)]; exact ins8) T.K_Giver T.N_Giver_given rfl ?_
  have x1 : upd (upd H8 g.cm (.lst (ys ++ [.ref r]))) g.ln (.lst (zs.map V.ref ++ [.ref p])) g.gv = some (.lst (hs.map V.int)) := by rw [upd_ne gv_ln, upd_ne gv_cm]; exact egv8
  refine k_tyL (sl x1) ?_
  wtm_at "s"
  refine k_append x1 (by rw [List.length_map]; have := gok.lh; omega) ?_
  wtm_at "s"
  refine k_gF (by rw [upd_ne (Ne.symm gv_a), upd_ne (Ne.symm ln_a), upd_ne (Ne.symm cm_a)]; exact ins8) T.K_Giver T.N_Giver_level rfl ?_
  have x2 : upd (upd (upd H8 g.cm (.lst (ys ++ [.ref r]))) g.ln (.lst (zs.map V.ref ++ [.ref p]))) g.gv (.lst (hs.map V.int ++ [.int hue])) g.lv = some (.lst (List.map V.int (es.map fun e => (e.2 : Int)))) := by rw [upd_ne lv_gv, upd_ne lv_ln, upd_ne lv_cm]; exact elv8
  refine k_tyL (sl x2) ?_
  wtm_at "s"
  refine k_append x2 (by rw [List.length_map, List.length_map]; omega) ?_
  wtm_at "s"
  have fin : ∀ x o, x ≠ g.cm → x ≠ g.ln → x ≠ g.gv → x ≠ g.lv → H8 x = some o → upd (upd (upd (upd H8 g.cm (.lst (ys ++ [.ref r]))) g.ln (.lst (zs.map V.ref ++ [.ref p]))) g.gv (.lst (hs.map V.int ++ [.int hue]))) g.lv (.lst (List.map V.int (es.map fun e => (e.2 : Int)) ++ [.int i])) x = some o := fun x o n1 n2 n3 n4 h => by
    rw [upd_ne n4, upd_ne n3, upd_ne n2, upd_ne n1]; exact h
  have f_cm : upd (upd (upd (upd H8 g.cm (.lst (ys ++ [.ref r]))) g.ln (.lst (zs.map V.ref ++ [.ref p]))) g.gv (.lst (hs.map V.int ++ [.int hue]))) g.lv (.lst (List.map V.int (es.map fun e => (e.2 : Int)) ++ [.int i])) g.cm = some (.lst (ys ++ [.ref r])) := by
    rw [upd_ne (Ne.symm lv_cm), upd_ne (Ne.symm gv_cm), upd_ne (Ne.symm ln_cm), upd_same]
  have f_ln : upd (upd (upd (upd H8 g.cm (.lst (ys ++ [.ref r]))) g.ln (.lst (zs.map V.ref ++ [.ref p]))) g.gv (.lst (hs.map V.int ++ [.int hue]))) g.lv (.lst (List.map V.int (es.map fun e => (e.2 : Int)) ++ [.int i])) g.ln = some (.lst ((zs ++ [p]).map V.ref)) := by
    rw [upd_ne (Ne.symm lv_ln), upd_ne (Ne.symm gv_ln), upd_same, List.map_append]; rfl
  have f_gv : upd (upd (upd (upd H8 g.cm (.lst (ys ++ [.ref r]))) g.ln (.lst (zs.map V.ref ++ [.ref p]))) g.gv (.lst (hs.map V.int ++ [.int hue]))) g.lv (.lst (List.map V.int (es.map fun e => (e.2 : Int)) ++ [.int i])) g.gv = some (.lst ((hs ++ [hue]).map V.int)) := by
    rw [upd_ne (Ne.symm lv_gv), upd_same, List.map_append]; rfl
  have f_lv : upd (upd (upd (upd H8 g.cm (.lst (ys ++ [.ref r]))) g.ln (.lst (zs.map V.ref ++ [.ref p]))) g.gv (.lst (hs.map V.int ++ [.int hue]))) g.lv (.lst (List.map V.int (es.map fun e => (e.2 : Int)) ++ [.int i])) g.lv = some (.lst (List.map V.int ((es ++ [(tieW (a, b), i)]).map fun e => (e.2 : Int)))) := by
    rw [upd_same, List.map_append, List.map_append]; rfl
  have SF : Same (hid g.cells H) (hid g.cells (upd (upd (upd (upd H8 g.cm (.lst (ys ++ [.ref r]))) g.ln (.lst (zs.map V.ref ++ [.ref p]))) g.gv (.lst (hs.map V.int ++ [.int hue]))) g.lv (.lst (List.map V.int (es.map fun e => (e.2 : Int)) ++ [.int i])))) := by
    rw [hid_upd (cin _ (.inr (.inr (.inr (.inl rfl))))), hid_upd (cin _ (.inr (.inr (.inr (.inr (.inl rfl)))))), hid_upd (cin _ (.inr (.inr (.inr (.inr (.inr (.inl rfl))))))), hid_upd (cin _ (.inr (.inr (.inr (.inr (.inr (.inr (.inl rfl)))))))) ]
    exact S08
  generalize upd (upd (upd (upd H8 g.cm (.lst (ys ++ [.ref r]))) g.ln (.lst (zs.map V.ref ++ [.ref p]))) g.gv (.lst (hs.map V.int ++ [.int hue]))) g.lv (.lst (List.map V.int (es.map fun e => (e.2 : Int)) ++ [.int i])) = HF at fin f_cm f_ln f_gv f_lv SF ⊢
  have rC : r ∉ g.cells := fun z => by
    have key : ∀ x o, H7 x = some o → r ≠ x := fun x o h e => by rw [e, h] at nr; cases nr
    unfold Gv.cells at z
    simp only [List.mem_append, List.mem_cons, List.not_mem_nil, or_false] at z
    rcases z with z | z | z | z | z | z | z | z | z
    · exact key _ _ up7.up_ z
    · obtain ⟨j, hj⟩ := List.mem_iff_getElem?.mp z
      exact key _ _ (up7.row j r hj) rfl
    · exact key _ _ (keeps S7 e6o ow_rs) z
    · exact key _ _ (keep7 _ _ (Ne.symm ow_lv) lv_rs (s05 _ _ ga.lev)) z
    · exact key _ _ (keep7 _ _ (Ne.symm ow_gv) gv_rs (s05 _ _ ga.given)) z
    · exact key _ _ (keep7 _ _ (Ne.symm ow_ln) ln_rs (s05 _ _ eln)) z
    · exact key _ _ ecm7 z
    · exact key _ _ (keep7 _ _ (Ne.symm ow_nt) nt_rs (s05 _ _ ga.net)) z
    · exact key _ _ (keep7 _ _ (Ne.symm ow_a) a_rs (s05 _ _ ga.ins)) z
  have notC : ∀ x o, x ∉ g.cells → H5 x = some o → HF x = some o := fun x o nx h => fin x o (fun e => nx (cin x (.inr (.inr (.inr (.inr (.inr (.inr (.inl e)))))))))
    (fun e => nx (cin x (.inr (.inr (.inr (.inr (.inr (.inl e)))))))) (fun e => nx (cin x (.inr (.inr (.inr (.inr (.inl e))))))) (fun e => nx (cin x (.inr (.inr (.inr (.inl e)))))) (kp8 x o (fun e => nx (cin x (.inr (.inr (.inl e))))) (fun e => nx (cin x (.inl e))) h)
  have erF : HF r = some (.tup [.int a, .int b]) := fin r _ (fun e => rC (cin r (.inr (.inr (.inr (.inr (.inr (.inr (.inl e)))))))))
    (fun e => rC (cin r (.inr (.inr (.inr (.inr (.inr (.inl e)))))))) (fun e => rC (cin r (.inr (.inr (.inr (.inr (.inl e))))))) (fun e => rC (cin r (.inr (.inr (.inr (.inl e)))))) er
  have r0 : H r = none := by
    have : hid g.cells H7 r = none := by rw [hid_ne rC]; exact nr
    have := S07.free this
    rwa [hid_ne rC] at this
  have tT : ∀ x o, x ∉ TT → HF x = some o → hid TT HF x = some o := fun x o n h => by rw [hid_ne n]; exact h
  obtain ⟨ysT, ecmT, dysT⟩ := gaT.come
  obtain ⟨zsT, elnT, lzsT, ezsT⟩ := gaT.lain
  obtain rfl : ys = ysT := by
    have := (hid_same _ _ _ _ ecmT).symm.trans ecm
    simpa using this.symm
  obtain rfl : zs = zsT := by
    have e := (hid_same _ _ _ _ elnT).symm.trans eln
    have e2 : zsT.map V.ref = zs.map V.ref := by simpa using e
    exact (List.map_inj_right (fun x y h => by cases h; rfl)).mp e2.symm
  refine q hue i t HF SF lvl (by omega) ⟨ga.nd, ga.n2, ga.n60, tT _ _ (inT _ _ gaT.ins) ?_, tT _ _ (inT _ _ gaT.net) ?_, ⟨ys ++ [.ref r], tT _ _ (inT _ _ ecmT) f_cm, ?_⟩, ⟨zs ++ [p], tT _ _ (inT _ _ elnT) f_ln, by simp [lzs], ?_⟩, tT _ _ (inT _ _ gaT.given) f_gv, tT _ _ (inT _ _ gaT.lev) f_lv, tT _ _ (inT _ _ gaT.own) ?_, ?_⟩ (gok.more wok lvl hh hfree ho)
  · exact fin _ _ (Ne.symm cm_a) (Ne.symm ln_a) (Ne.symm gv_a) (Ne.symm lv_a) ins8
  · exact fin _ _ (Ne.symm cm_nt) (Ne.symm ln_nt) (Ne.symm gv_nt) (Ne.symm lv_nt) (kp8 _ _ (Ne.symm ow_nt) nt_rs (s05 _ _ ga.net))
  · rw [List.map_append]
    refine dpa_app (dpa_same (hid_under SF) dysT) (.cons (dp_of_pair (stp ?_)) .nil)
    rw [hid_ne rC]
    exact tT _ _ (newT _ r0) erF
  · intro k z e hz he
    rcases snoc_get hz with ⟨c, hz⟩ | ⟨c, rfl⟩
    · rw [List.getElem?_append_left (by omega)] at he
      obtain ⟨z1, z2⟩ := ezsT k z e hz he
      exact ⟨z1, tT _ _ (inT _ _ z2) (notC z _ z1 (s05 _ _ (ezs k z e hz he).2))⟩
    · rcases snoc_get he with ⟨d, _⟩ | ⟨_, rfl⟩
      · omega
      · exact ⟨pC, tT _ _ (newT _ np) (notC z _ pC e5)⟩
  · exact fin _ _ ow_cm ow_ln ow_gv ow_lv (s8 _ _ (keeps S7 e6o ow_rs))
  · obtain ⟨⟨dx, fs, h1, h2⟩, h3, h4, h5⟩ := up7
    refine ⟨⟨dx, fs, tT _ _ (inT _ _ gaT.ins) (fin _ _ (Ne.symm cm_a) (Ne.symm ln_a) (Ne.symm gv_a) (Ne.symm lv_a) (s8 _ _ h1)), h2⟩, tT _ _ (inT _ _ gaT.up_.up_) (fin _ _ u_cm u_ln u_gv u_lv (s8 _ _ h3)), h4, fun j x hx => ?_⟩
    have hr := List.mem_of_getElem? hx
    exact tT _ _ (inT _ _ (gaT.up_.row j x hx)) (fin _ _ (fun e => cm_rs (e ▸ hr)) (fun e => ln_rs (e ▸ hr)) (fun e => gv_rs (e ▸ hr)) (fun e => lv_rs (e ▸ hr)) (s8 _ _ (h5 j x hx)))
abbrev sp_Giver_put (K : PySem.W.Frag) (A : Ad) : Sp := fun vs H Q E => ∃ v0 v1, vs = [v0, v1] ∧ pr_Giver_put K A v0 v1 H Q E
theorem ok_Giver_put (T : Txt K mg A) : FnOk P w K mg base CX0 3 A.a_Giver_put A.d_Giver_put ["self", "way"] (sp_Giver_put K A) := by
  refine T.F_Giver_put.ok sc_Giver_put (fun vs H Q E h => by obtain ⟨v0, v1, rfl, _⟩ := h; rfl) (fun cdv A0 outer s H vs Q E hr h => ?_)
  obtain ⟨v0, v1, rfl, h⟩ := h
  exact ⟨t_Giver_put K A, (pss_cons (ps_if (pt_not (pt_val (pe_call (ok_is_way T) (hr.mono (by decide)) (by rfl) T.g_is_way T.F_is_way.kp T.b_is_way .nil pass0 (pa_cons (pe_fld (pv 0) (by rfl)) (pa_cons (pv 1) pa_nil))))) (pss_one ps_never) pss_nil)
      (pss_cons (ps_if (pt_cmpR op_eq (pe_callB q_len (by rfl) T.z_len (by decide +kernel) (pa_cons (pe_fld (pv 0) (by rfl)) pa_nil)) (pe_glob (v := .int 40) (by rfl) T.c_MOST_WAYS ⟨_, rfl⟩) (nomark _)) (pss_one ps_never) pss_nil)
      (pss_cons (ps_set (i := 2) sc_Giver_put.nd rfl (Or.inr rfl) (pe_call (ok_ties_on T) (hr.mono (by decide)) (by rfl) T.g_ties_on T.F_ties_on.kp T.b_ties_on .nil pass0 (pa_cons (pe_fld (pv 0) (by rfl)) (pa_cons (pv 1) pa_nil))))
      (pss_cons (ps_set (i := 3) sc_Giver_put.nd rfl (Or.inr rfl) (pe_meth (pv 0) T.K_Giver T.Me_Giver_level_for (ok_Giver_level_for T) (hr.mono (by decide)) T.b_Giver_level_for .nil pass0 (pa_cons (pv 2) pa_nil)))
      (pss_cons (ps_set (i := 4) sc_Giver_put.nd rfl (Or.inr rfl) (pe_lc (own := [("k", 6)]) (by rfl) sc_Giver_put.nd (pi_range1 (by rfl) T.z_range (pa_cons (pe_callB q_len (by rfl) T.z_len (by decide +kernel) (pa_cons (pe_fld (pv 0) (by rfl)) pa_nil)) pa_nil)) (blkOk_by (own := [("k", 6)]) (N := ["self", "way", "ties", "i", "taken", "hue", "k", "one"]) (sc := defScope s_Giver_put) (by decide +kernel)) (fun _ _ _ _ _ => (pg_name (i := 6) sc_Giver_put.nd rfl (Or.inl rfl))) (fun _ _ _ _ _ => (pts_one (PW.pt (pw_and (pt_cmpR op_eq (pe_ix ix_list (pe_fld (pv 0) (by rfl)) (pv 6) (fun _ _ => rfl)) (pv 3) (nomark _)) (pw_and1 (pt_val (pe_call (ok_meet T) (hr.mono (by decide)) (by rfl) T.g_meet T.F_meet.kp T.b_meet .nil pass0 (pa_cons (pv 2) (pa_cons (pe_ix ix_list (pe_fld (pv 0) (by rfl)) (pv 6) (fun _ _ => rfl)) pa_nil))))))))) (fun _ _ _ _ _ => (pe_ix ix_list (pe_fld (pv 0) (by rfl)) (pv 6) (fun _ _ => rfl)))))
      (pss_cons (ps_set (i := 5) sc_Giver_put.nd rfl (Or.inl rfl) (pe_ix ix_list (pe_lc (own := [("one", 7)]) (by rfl) sc_Giver_put.nd (pi_list (pe_call (ok_hues_of T) (hr.mono (by decide)) (by rfl) T.g_hues_of T.F_hues_of.kp T.b_hues_of .nil pass0 (pa_cons (pv 3) pa_nil))) (blkOk_by (own := [("one", 7)]) (N := ["self", "way", "ties", "i", "taken", "hue", "k", "one"]) (sc := defScope s_Giver_put) (by decide +kernel)) (fun _ _ _ _ _ => (pg_name (i := 7) sc_Giver_put.nd rfl (Or.inl rfl))) (fun _ _ _ _ _ => (pts_one (pt_cmpR op_notIn_seq (pv 7) (pv 4) (by rfl)))) (fun _ _ _ _ _ => (pv 7))) pe_int (fun _ _ => rfl)))
      (pss_cons (ps_expr (pe_bm PySem.F.plainAttrs_list PySem.F.slot_list_append PySem.F.type_list_append mt_append (pe_fld (pv 0) (by rfl)) (pa_cons (pe_meth (pv 0) T.K_Giver T.Me_Giver_own_for (ok_Giver_own_for T) (hr.mono (by decide)) T.b_Giver_own_for .nil pass0 (pa_cons (pv 2) (pa_cons (pv 3) pa_nil))) pa_nil)))
      (pss_cons (ps_expr (pe_meth (pv 0) T.K_Giver T.Me_Giver_counted_in (ok_Giver_counted_in T) (hr.mono (by decide)) T.b_Giver_counted_in .nil pass0 (pa_cons (pv 2) (pa_cons (pv 3) pa_nil))))
      (pss_cons (ps_expr (pe_bm PySem.F.plainAttrs_list PySem.F.slot_list_append PySem.F.type_list_append mt_append (pe_fld (pv 0) (by rfl)) (pa_cons (pe_tup (pa_cons (pe_ix ix_tup (pv 1) pe_int (fun _ _ => rfl)) (pa_cons (pe_ix ix_tup (pv 1) pe_int (fun _ _ => rfl)) pa_nil))) pa_nil)))
      (pss_cons (ps_expr (pe_bm PySem.F.plainAttrs_list PySem.F.slot_list_append PySem.F.type_list_append mt_append (pe_fld (pv 0) (by rfl)) (pa_cons (pv 2) pa_nil)))
      (pss_cons (ps_expr (pe_bm PySem.F.plainAttrs_list PySem.F.slot_list_append PySem.F.type_list_append mt_append (pe_fld (pv 0) (by rfl)) (pa_cons (pv 5) pa_nil)))
      (pss_cons (ps_expr (pe_bm PySem.F.plainAttrs_list PySem.F.slot_list_append PySem.F.type_list_append mt_append (pe_fld (pv 0) (by rfl)) (pa_cons (pv 3) pa_nil)))
      (pss_one (ps_ret (pv 5))))))))))))))), pure_Giver_put T h⟩


/-- a comprehension over a list, each turn gives a new thing of which F tells the data -/
theorem lc_dp {σ : L2.St} {vs : List Nat} {g : TG} {te : TE} {H1 : Hp} {QD : Addr → Hp → Prop} {α : Type} {a : Addr} {xs : List V} (S0 : List Addr) (hS : ∀ b ∈ S0, H1 b ≠ none) (hs : SqL K H1 a xs) (ps : List α) (hl : xs.length = ps.length) (hz : ps.length ≤ 50000) (F : α → PyData)
    (step : ∀ (i : Nat) x p H', xs[i]? = some x → ps[i]? = some p → Same H1 H' → ∀ (R : V → Hp → Prop), (∀ y H'', Same H' H'' → (∀ S : List Addr, (∀ b ∈ S, H' b ≠ none) → Dp K (hid S H'') y (F p)) → R y H'') →
      g x (wipe σ vs) H' fun σ2 H2 => wipe σ2 vs = wipe σ vs ∧ te σ2 H2 R)
    (h : ∀ D ys H', H1 D = none → Same H1 H' → H' D = some (.lst ys) → DpAll K (hid (D :: S0) H') ys (ps.map F) → QD D H') (hg : ∀ x σ' H (q q' : L2.St → Hp → Prop), (∀ s H, q s H → q' s H) → g x σ' H q → g x σ' H q') :
    ∃ a', V.ref a = .ref a' ∧ (∃ xs, SqL K H1 a' xs) ∧ ∀ D, H1 D = none → ∃ W : Nat → Nat → Hp → Prop, (∃ m, W 0 m (upd H1 D (.lst []))) ∧ ∀ i m H, W i m H →
      ((Itl K a').stop i H ∧ QD D H) ∨ ((Itl K a').go i H ∧ ∃ Nx : Hp → Prop, (∀ H', Nx H' → ∃ m', m' < m ∧ W (i + 1) m' H') ∧ ∀ x H', (Itl K a').yld i H x H' → g x (wipe σ vs) H' fun σ2 H2 => wipe σ2 vs = wipe σ vs ∧ tYes σ2 H2 fun b H3 =>
        if b = true then te σ2 H3 fun y H4 => ∃ acc, H4 D = some (.lst acc) ∧ acc.length < sizeLine ∧ Nx (upd H4 D (.lst (acc ++ [y]))) else Nx H3) := by
  refine ⟨a, rfl, ⟨xs, hs⟩, fun D nD => lc_list (xs := xs) (fun i H => Same H1 H ∧ ∃ ys, H D = some (.lst ys) ∧ ys.length = i ∧ DpAll K (hid (D :: S0) H) ys ((ps.take i).map F)) ⟨same_new nD, [], upd_same, rfl, .nil⟩ (fun i H _ e => e.1.seq hs) ?_ ?_⟩
  · rintro i x H hx ⟨sm, ys, hD, hly, hys⟩
    have hi : i < xs.length := (List.getElem?_eq_some_iff.mp hx).1
    obtain ⟨p, hp⟩ : ∃ p, ps[i]? = some p := ⟨ps[i]'(by omega), List.getElem?_eq_getElem (by omega)⟩
    refine hg _ _ _ _ _ (fun s2 H2 hh => ⟨hh.1, k_yes (iteT hh.2)⟩) (step i x p H hx hp sm _ (fun y H'' s2 dy => ⟨ys, s2 _ _ hD, szl (by omega), same_mut (sm.trans s2) nD, ys ++ [y], upd_same, by simp [hly], ?_⟩))
    rw [hid_upd (by simp), List.take_add_one, hp, List.map_append]
    refine dpa_app (dpa_same (hid_mono s2) hys) (.cons (dy _ fun b hb => ?_) .nil)
    rcases List.mem_cons.mp hb with e | hb
    · rw [e, hD]; exact fun z => nomatch z
    · intro z
      exact hS b hb (sm.free z)
  · rintro H ⟨sm, ys, hD, hly, hys⟩
    rw [hl, List.take_length] at hys
    exact h D ys H nD sm hD hys
theorem rg_ties (a b : Int) : rgV a b = (tiesI (a, b - 1)).map V.int := by
  rw [rg_ints]
  unfold tiesI
  simp only
  rw [show b - 1 - a + 1 = b - a by omega]
abbrev dLain (ws : List (Int × Int)) : PyData := .list (ws.map fun w => dInts (tiesI (tieW w)))
def pr_law_lain (K : PySem.W.Frag) (v0 : V) (H : Hp) (Q : VK) (_ : XK) : Prop := ∃ (S0 : List Addr) (ws : List (Int × Int)), (∀ b ∈ S0, H b ≠ none) ∧ Dp K H v0 (dPairs ws) ∧ ws.length ≤ 40 ∧ (∀ w ∈ ws, 0 ≤ w.1 ∧ w.1 ≤ 60 ∧ 0 ≤ w.2 ∧ w.2 ≤ 60) ∧
  ∀ D H', H D = none → Same H H' → Dp K (hid S0 H') (.ref D) (dLain ws) → Q (.ref D) H'
def t_law_lain (K : PySem.W.Frag) : TS :=
  (tRet (tLc (iList K (tVar 0)) (gName 1) tYes (tLstRg (tRg2 (tCB (rMinT K) (tCons (tVar 1) tNil)) (tCB (rMaxT K) (tCons (tVar 1) tNil)))) [1]))
theorem pure_law_lain {v0 : V} {H : Hp} {Q : VK} {E : XK} (h : pr_law_lain K v0 H Q E) : t_law_lain K ⟨fun _ H' => Q .non H', Q, fun _ _ => False, fun _ _ => False⟩ [some v0, none] H := by
  obtain ⟨S0, ws, hS, dws, lw, wok, q⟩ := h
  obtain ⟨p, xs, rfl, hp, hxs⟩ := dp_list dws
  have lx : xs.length = ws.length := by simpa using dpa_len hxs
  unfold t_law_lain
  wtm_at "s"
  refine lc_dp S0 hS hp ws lx (by omega) (fun w => dInts (tiesI (tieW w))) ?_ (fun D ys H' nD sD eD dD => ?_) (fun x σ' H q q' h hh => h _ _ hh)
  · intro i x w H' hx hw sm R h1
    obtain ⟨w', c, hw', rfl, hc⟩ := dpairs_get hxs hx
    obtain rfl := Option.some.inj (hw'.symm.trans hw)
    have hc' := same_seqT sm hc
    have b := wok w' (List.mem_of_getElem? hw)
    wtm_at "s"
    refine kR ⟨by omega, by omega, by omega⟩ (fun r H'' nr sr er => ?_)
    refine h1 _ _ sr (fun S hS' => dp_of_ints (sl ?_))
    rw [hid_ne (fun z => hS' r z nr), er, rg_ties]
    rfl
  · refine q D H' nD sD (.lst (sl ?_) (dpa_same (hid_sub fun b hb => List.mem_cons_of_mem _ hb) dD))
    rw [hid_ne (fun z => hS D z nD)]; exact eD
abbrev sp_law_lain (K : PySem.W.Frag) : Sp := fun vs H Q E => ∃ v0, vs = [v0] ∧ pr_law_lain K v0 H Q E
theorem ok_law_lain (T : Txt K mg A) : FnOk P w K mg base CX0 1 A.a_law_lain A.d_law_lain ["_law_ways_here"] (sp_law_lain K) := by
  refine T.F_law_lain.ok sc_law_lain (fun vs H Q E h => by obtain ⟨v0, rfl, _⟩ := h; rfl) (fun cdv A0 outer s H vs Q E hr h => ?_)
  obtain ⟨v0, rfl, h⟩ := h
  exact ⟨t_law_lain K, (pss_one (ps_ret (pe_lc (own := [("_law_way_here", 1)]) (by rfl) sc_law_lain.nd (pi_list (pv 0)) (blkOk_by (own := [("_law_way_here", 1)]) (N := ["_law_ways_here", "_law_way_here"]) (sc := defScope s_law_lain) (by decide +kernel)) (fun _ _ _ _ _ => (pg_name (i := 1) sc_law_lain.nd rfl (Or.inl rfl))) (fun _ _ _ _ _ => pts_nil) (fun _ _ _ _ _ => (pe_listRg (by rfl) (by rfl) T.z_list (prg_2 (by rfl) T.z_range (pe_callB (q_minT (by rfl) hr.units) (by rfl) T.z_min (by decide +kernel) (pa_cons (pv 1) pa_nil)) (pe_callB (q_maxT (by rfl) hr.units) (by rfl) T.z_max (by decide +kernel) (pa_cons (pv 1) pa_nil)))))))), pure_law_lain h⟩


/-! ### what levels, ties and hues show -/
abbrev Tri := Int × Int × Int
abbrev dTri (x : Tri) : PyData := .tuple [.int x.1, .int x.2.1, .int x.2.2]
abbrev dTris (xs : List Tri) : PyData := .list (xs.map dTri)
abbrev dRows (ls : List (Int × Int)) : PyData := .list (ls.map fun w => dInts (tiesI w))
def levT (xs : List Tri) (j : Nat) : Int := (xs.getD j (0, 0, 0)).1
def tieT (xs : List Tri) (j : Nat) : Int := (xs.getD j (0, 0, 0)).2.1
def hueT (xs : List Tri) (j : Nat) : Int := (xs.getD j (0, 0, 0)).2.2
def rowT (ls : List (Int × Int)) (j : Nat) : Int × Int := ls.getD j (0, 0)
def cntT (ls : List (Int × Int)) (xs : List Tri) (k : Nat) (l t : Int) : Nat := (List.range k).countP fun j => decide (levT xs j < l) && decide (onI (rowT ls j) t)
def RightAt (ls : List (Int × Int)) (xs : List Tri) (k : Nat) : Prop := 1 ≤ levT xs k ∧ onI (rowT ls k) (tieT xs k) ∧ hueT xs k ∈ lvHues (levT xs k).toNat ∧ (cntT ls xs k (levT xs k) (tieT xs k) : Int) = levT xs k - 1 ∧
  (∀ j, j < min ls.length xs.length → j ≠ k → levT xs j = levT xs k → ¬ onI (rowT ls j) (tieT xs k)) ∧ ∀ j, j < k → hueT xs j = hueT xs k → ¬ meetI (rowT ls j) (rowT ls k)
open Classical in
noncomputable def dueT (ls : List (Int × Int)) (xs : List Tri) : Option Int := match (List.range (min ls.length xs.length)).find? (fun k => !decide (RightAt ls xs k)) with
  | some k => some (k : Int)
  | none => if ls.length = xs.length then none else some (ls.length : Int)
def optV : Option Int → V
  | some i => .int i
  | none => .non
def optD : Option Int → PyData
  | some i => .int i
  | none => .none
theorem dp_opt {H : Hp} (o : Option Int) : Dp K H (optV o) (optD o) := by
  cases o with
  | some i => exact .int i
  | none => exact .non
theorem sh_opt {n : Nat} (o : Option Int) : Sh n (optD o) := by
  cases o with
  | some i => exact sh_int
  | none => exact sh_none
theorem due_at {ls : List (Int × Int)} {xs : List Tri} {k : Nat} (hk : k < min ls.length xs.length) (h1 : ∀ j, j < k → RightAt ls xs j) (h2 : ¬ RightAt ls xs k) : dueT ls xs = some (k : Int) := by
  unfold dueT
  have : (List.range (min ls.length xs.length)).find? (fun k => !@decide (RightAt ls xs k) (Classical.propDecidable _)) = some k := by
    rw [List.find?_eq_some_iff_getElem]
    refine ⟨by simp [h2], k, by simpa using hk, by simp, fun j hj => ?_⟩
    simp [h1 j hj]
  rw [this]
theorem due_all {ls : List (Int × Int)} {xs : List Tri} (h1 : ∀ j, j < min ls.length xs.length → RightAt ls xs j) : dueT ls xs = if ls.length = xs.length then none else some (ls.length : Int) := by
  unfold dueT
  have : (List.range (min ls.length xs.length)).find? (fun k => !@decide (RightAt ls xs k) (Classical.propDecidable _)) = none := by
    rw [List.find?_eq_none]
    intro j hj
    simp [h1 j (List.mem_range.mp hj)]
  rw [this]
theorem getT {xs : List Tri} {j : Nat} (h : j < xs.length) : xs[j]? = some (levT xs j, tieT xs j, hueT xs j) := by
  unfold levT tieT hueT
  rw [List.getD_eq_getElem?_getD, List.getElem?_eq_getElem h]; rfl
theorem getRow {ls : List (Int × Int)} {j : Nat} (h : j < ls.length) : ls[j]? = some (rowT ls j) := by
  unfold rowT
  rw [List.getD_eq_getElem?_getD, List.getElem?_eq_getElem h]; rfl
theorem cnt_one {n k : Nat} {P : Nat → Bool} (hk : k < n) (hp : P k = true) : (List.range n).countP P = 1 ↔ ∀ j, j < n → j ≠ k → P j = false := by
  have e : (List.range n).countP P = (List.range n).countP (fun j => decide (j = k)) + (List.range n).countP (fun j => P j && !decide (j = k)) := by
    have key : ∀ l : List Nat, l.countP P = l.countP (fun j => decide (j = k)) + l.countP (fun j => P j && !decide (j = k)) := by
      intro l
      induction l with
      | nil => rfl
      | cons a r ih =>
        rw [List.countP_cons, List.countP_cons, List.countP_cons, ih]
        by_cases c : a = k
        · subst c
          simp [hp]; omega
        · by_cases d : P a = true
          · simp [c, d]; omega
          · simp [c, d]
    exact key _
  have one : (List.range n).countP (fun j => decide (j = k)) = 1 := by
    have h1 : (List.range n).count k ≤ 1 := List.nodup_iff_count.mp List.nodup_range k
    have h2 : 0 < (List.range n).count k := List.count_pos_iff.mpr (List.mem_range.mpr hk)
    have h3 : (List.range n).countP (fun j => decide (j = k)) = (List.range n).count k := by
      rw [List.count_eq_countP]
      exact List.countP_congr fun x _ => by simp
    omega
  rw [e, one]
  constructor
  · intro h j hj jk
    have z : (List.range n).countP (fun j => P j && !decide (j = k)) = 0 := by omega
    rw [List.countP_eq_zero] at z
    have := z j (List.mem_range.mpr hj)
    simp [jk] at this
    exact this
  · intro h
    have z : (List.range n).countP (fun j => P j && !decide (j = k)) = 0 := by
      rw [List.countP_eq_zero]
      intro j hj
      by_cases c : j = k
      · simp [c]
      · simp [h j (List.mem_range.mp hj) c]
    omega


theorem rows_at {H : Hp} {ls : List (Int × Int)} {zs : List V} {j : Nat} (d : DpAll K H zs (ls.map fun w => dInts (tiesI w))) (h : j < ls.length) : ∃ z, zs[j]? = some (.ref z) ∧ SqL K H z ((tiesI (rowT ls j)).map V.int) := by
  obtain ⟨v, hv, dv⟩ := dpa_get2 d (i := j) (by rw [List.getElem?_map, getRow h]; rfl)
  obtain ⟨p, rfl, hp⟩ := dp_ints dv
  exact ⟨p, hv, hp⟩
theorem dp_tri {H : Hp} {v : V} {x : Tri} (h : Dp K H v (dTri x)) : ∃ a, v = .ref a ∧ SqT K H a [.int x.1, .int x.2.1, .int x.2.2] := by
  obtain ⟨a, ys, rfl, hs, hy⟩ := dp_tup h
  have e : ys = [x.1, x.2.1, x.2.2].map V.int := dpa_ints (ns := [x.1, x.2.1, x.2.2]) hy
  subst e
  exact ⟨a, rfl, hs⟩
theorem tris_at {H : Hp} {xs : List Tri} {us : List V} {j : Nat} (d : DpAll K H us (xs.map dTri)) (h : j < xs.length) : ∃ u, us[j]? = some (.ref u) ∧ SqT K H u [.int (levT xs j), .int (tieT xs j), .int (hueT xs j)] := by
  obtain ⟨v, hv, dv⟩ := dpa_get2 d (i := j) (by rw [List.getElem?_map, getT h]; rfl)
  obtain ⟨p, rfl, hp⟩ := dp_tri dv
  exact ⟨p, hv, hp⟩
theorem fm_len {α β : Type} (c : α → Bool) (g : α → β) (l : List α) : (l.filterMap fun x => if c x = true then some (g x) else none).length = l.countP c := by
  induction l with
  | nil => rfl
  | cons a r ih =>
    by_cases h : c a = true
    · rw [List.filterMap_cons, if_pos h, List.countP_cons, if_pos h, List.length_cons, ih]
    · rw [List.filterMap_cons, if_neg h, List.countP_cons, if_neg h, ih, Nat.add_zero]
theorem rowT_ok {ls : List (Int × Int)} (h : ∀ w ∈ ls, w.1 ≤ w.2) {j : Nat} (hj : j < ls.length) : (rowT ls j).1 ≤ (rowT ls j).2 := h _ (List.mem_of_getElem? (getRow hj))
def pr_many_on (K : PySem.W.Frag) (v0 v1 v2 v3 v4 : V) (H : Hp) (Q : VK) (_ : XK) : Prop := ∃ (ls : List (Int × Int)) (lv : List Int) (t lo hi : Int), Dp K H v0 (dRows ls) ∧ Dp K H v1 (dInts lv) ∧ v2 = .int t ∧ v3 = .int lo ∧ v4 = .int hi ∧ lv.length ≤ ls.length ∧ ls.length ≤ 10000 ∧ (∀ w ∈ ls, w.1 ≤ w.2) ∧
  ∀ H', Same H H' → Q (.int (((List.range lv.length).countP (fun j => (decide (lo ≤ lv.getD j 0) && decide (lv.getD j 0 ≤ hi)) && decide (onI (rowT ls j) t)) : Nat) : Int)) H'
def t_many_on (K : PySem.W.Frag) : TS :=
  (tSeq (tAsg (tLc (iRng1 (tCons (tCB (rLen K) (tCons (tVar 1) tNil)) tNil)) (gName 6) (tTest (tChain xLe xLe (tVar 3) (tOp (rIxL K) (tVar 1) (tVar 6)) (tVar 4))) (tVar 6) [6]) (gName 5))
    (tRet (tCB (rLen K) (tCons (tLc (iList K (tVar 5)) (gName 6) (tTest (tChain xLe xLe (tOp (rIxL K) (tOp (rIxL K) (tVar 0) (tVar 6)) (tC (.int 0))) (tVar 2) (tOp (rIxL K) (tOp (rIxL K) (tVar 0) (tVar 6)) (tUn xNeg (tC (.int 1)))))) (tVar 6) [6]) tNil))))
theorem pure_many_on {v0 v1 v2 v3 v4 : V} {H : Hp} {Q : VK} {E : XK} (h : pr_many_on K v0 v1 v2 v3 v4 H Q E) : t_many_on K ⟨fun _ H' => Q .non H', Q, fun _ _ => False, fun _ _ => False⟩ [some v0, some v1, some v2, some v3, some v4, none, none] H := by
  obtain ⟨ls, lv, t, lo, hi, d0, d1, rfl, rfl, rfl, ll, lz, ok, q⟩ := h
  obtain ⟨p0, zs, rfl, h0, dzs⟩ := dp_list d0
  obtain ⟨p1, rfl, h1⟩ := dp_ints d1
  unfold t_many_on
  wtm_at "s"
  refine lc_pureR (by omega) (fun j => if (decide (lo ≤ lv.getD j 0) && decide (lv.getD j 0 ≤ hi)) = true then some (V.int (0 + (j : Nat))) else none) ?_ (fun D H1 nD s1 eD => ?_)
  · intro j H' hj sm R R0 g1 g2
    have e0 : (0 : Int) + (j : Nat) = (j : Nat) := by omega
    rw [e0] at g1 ⊢
    wtm_at "s"
    refine k_ixI (sm.seq h1) (by omega) (by omega) ?_
    rw [Int.toNat_natCast]
    wtm_at "s"
    refine k_it (fun c1 => ?_) (fun c1 => ?_)
    · wtm_at "s"
      refine k_it (fun c2 => ?_) (fun c2 => ?_)
      · wtm_at "s"
        exact g1 _ (if_pos (by rw [decide_eq_true c1, decide_eq_true c2]; rfl))
      · exact g2 (if_neg (by rw [decide_eq_false c2, Bool.and_false]; exact Bool.false_ne_true))
    · wtm_at "s"
      exact g2 (if_neg (by rw [decide_eq_false c1, Bool.false_and]; exact Bool.false_ne_true))
  rw [Int.toNat_natCast, keepI_fm] at eD
  wtm_at "s"
  refine lc_pure (sl eD) _ (by rw [List.length_map]) (by unfold keepI; rw [List.length_map]; have := List.length_filter_le (fun j => decide (lo ≤ lv.getD j 0) && decide (lv.getD j 0 ≤ hi)) (List.range lv.length); rw [List.length_range] at this; omega) (fun x => if decide (onI (rowT ls x.toNat) t) = true then some (V.int x) else none) ?_ (fun D2 H2 nD2 s2 eD2 => ?_)
  · intro i x y H' hx hy sm R R0 g1 g2
    rw [List.getElem?_map, hy] at hx
    cases hx
    obtain ⟨y0, y1, _⟩ := keepI_mem.mp (List.mem_of_getElem? hy)
    obtain ⟨j, rfl⟩ := Int.eq_ofNat_of_zero_le y0
    have hj : j < ls.length := by omega
    obtain ⟨z, hz, hz'⟩ := rows_at dzs hj
    have s' := s1.trans sm
    have rok := rowT_ok ok hj
    rw [Int.toNat_natCast] at g1 g2
    wtm_at "s"
    refine k_ixL (s'.seq h0) (atI_nat hz) ?_
    wtm_at "s"
    refine k_ixL (s'.seq hz') (at_first rok) ?_
    wtm_at "s"
    refine k_it (fun c1 => ?_) (fun c1 => ?_)
    · wtm_at "s"
      refine k_ixL (s'.seq h0) (atI_nat hz) ?_
      wtm_at "s"
      refine k_ixL (s'.seq hz') (at_final rok) ?_
      wtm_at "s"
      refine k_it (fun c2 => ?_) (fun c2 => ?_)
      · wtm_at "s"
        exact g1 _ (if_pos (by simp; exact ⟨c1, c2⟩))
      · exact g2 (if_neg (by simp; exact fun z => c2 z.2))
    · wtm_at "s"
      exact g2 (if_neg (by simp; exact fun z => c1 z.1))
  wtm_at "s"
  have e : ((keepI lv.length fun j => decide (lo ≤ lv.getD j 0) && decide (lv.getD j 0 ≤ hi)).filterMap fun x => if decide (onI (rowT ls x.toNat) t) = true then some (V.int x) else none).length = (List.range lv.length).countP fun j => (decide (lo ≤ lv.getD j 0) && decide (lv.getD j 0 ≤ hi)) && decide (onI (rowT ls j) t) := by
    rw [fm_len]
    unfold keepI
    rw [List.countP_map, List.countP_filter]
    refine List.countP_congr fun j _ => ?_
    simp only [Function.comp, Int.toNat_natCast, Bool.and_eq_true]
    exact and_comm
  rw [e]
  exact q _ (s1.trans s2)
abbrev sp_many_on (K : PySem.W.Frag) : Sp := fun vs H Q E => ∃ v0 v1 v2 v3 v4, vs = [v0, v1, v2, v3, v4] ∧ pr_many_on K v0 v1 v2 v3 v4 H Q E
theorem ok_many_on (T : Txt K mg A) : FnOk P w K mg base CX0 1 A.a_many_on A.d_many_on ["lain", "levels", "tie", "least", "most"] (sp_many_on K) := by
  refine T.F_many_on.ok sc_many_on (fun vs H Q E h => by obtain ⟨v0, v1, v2, v3, v4, rfl, _⟩ := h; rfl) (fun cdv A0 outer s H vs Q E hr h => ?_)
  obtain ⟨v0, v1, v2, v3, v4, rfl, h⟩ := h
  exact ⟨t_many_on K, (pss_cons (ps_setLc (i := 5) (own := [("k", 6)]) (by rfl) sc_many_on.nd rfl rfl (sw_true rfl rfl rfl (by decide +kernel)) (pi_range1 (by rfl) T.z_range (pa_cons (pe_callB q_len (by rfl) T.z_len (by decide +kernel) (pa_cons (pv 1) pa_nil)) pa_nil)) (blkOk_by (own := [("k", 6)]) (N := ["lain", "levels", "tie", "least", "most", "some", "k"]) (sc := defScope s_many_on) (by decide +kernel)) (fun _ _ _ _ _ => (pg_name (i := 6) sc_many_on.nd rfl (Or.inl rfl))) (fun _ _ _ _ _ => (pts_one (pt_chain op_le op_le (pv 3) (pe_ix ix_list (pv 1) (pv 6) (fun _ _ => rfl)) (pv 4)))) (fun _ _ _ _ _ => (pv 6)))
      (pss_one (ps_ret (pe_callB q_len (by rfl) T.z_len (by decide +kernel) (pa_cons (pe_lc (own := [("k", 6)]) (by rfl) sc_many_on.nd (pi_list (pv 5)) (blkOk_by (own := [("k", 6)]) (N := ["lain", "levels", "tie", "least", "most", "some", "k"]) (sc := defScope s_many_on) (by decide +kernel)) (fun _ _ _ _ _ => (pg_name (i := 6) sc_many_on.nd rfl (Or.inl rfl))) (fun _ _ _ _ _ => (pts_one (pt_chain op_le op_le (pe_ix ix_list (pe_ix ix_list (pv 0) (pv 6) (fun _ _ => rfl)) pe_int (fun _ _ => rfl)) (pv 2) (pe_ix ix_list (pe_ix ix_list (pv 0) (pv 6) (fun _ _ => rfl)) (pe_un un_neg pe_int) (fun _ _ => rfl))))) (fun _ _ _ _ _ => (pv 6))) pa_nil))))), pure_many_on h⟩


theorem lvHues_mem {l h : Int} (l1 : 1 ≤ l) : ∃ i : Nat, l = i ∧ 1 ≤ i ∧ l.toNat = i := ⟨l.toNat, by omega, by omega, rfl⟩
theorem levs_get (xs : List Tri) (j : Nat) : (xs.map fun x => x.1).getD j 0 = levT xs j := by
  unfold levT
  rw [List.getD_eq_getElem?_getD, List.getD_eq_getElem?_getD, List.getElem?_map]
  cases xs[j]? <;> rfl
theorem levs_take {xs : List Tri} {j k : Nat} (h : j < k) : ((xs.map fun x => x.1).take k).getD j 0 = levT xs j := by
  rw [← levs_get, List.getD_eq_getElem?_getD, List.getD_eq_getElem?_getD, List.getElem?_take, if_pos h]
theorem row_take {ls : List (Int × Int)} {j k : Nat} (h : j < k) : rowT (ls.take k) j = rowT ls j := by
  unfold rowT
  rw [List.getD_eq_getElem?_getD, List.getD_eq_getElem?_getD, List.getElem?_take, if_pos h]
/-- the rows and lines that are looked at -/
structure ShAt (K : PySem.W.Frag) (H : Hp) (v0 v1 : V) (ls : List (Int × Int)) (xs : List Tri) : Prop where
  d0 : Dp K H v0 (dRows ls)
  d1 : Dp K H v1 (dTris xs)
  l0 : ls.length ≤ 1000
  l1 : xs.length ≤ 1000
  ok : ∀ w ∈ ls, w.1 ≤ w.2
theorem ShAt.same {H H' : Hp} {v0 v1 : V} {ls : List (Int × Int)} {xs : List Tri} (h : ShAt K H v0 v1 ls xs) (s : Same H H') : ShAt K H' v0 v1 ls xs := ⟨dp_same s h.d0, dp_same s h.d1, h.l0, h.l1, h.ok⟩
/-- how many there are of the level on the tie, of all that are looked at -/
theorem cnt_same {ls : List (Int × Int)} {xs : List Tri} {k : Nat} (hk : k < min ls.length xs.length) (on : onI (rowT ls k) (tieT xs k)) : ((List.range ((xs.map fun x => x.1).take ls.length).length).countP (fun j => (decide (levT xs k ≤ ((xs.map fun x => x.1).take ls.length).getD j 0) && decide (((xs.map fun x => x.1).take ls.length).getD j 0 ≤ levT xs k)) && decide (onI (rowT ls j) (tieT xs k))) = 1) ↔
    ∀ j, j < min ls.length xs.length → j ≠ k → levT xs j = levT xs k → ¬ onI (rowT ls j) (tieT xs k) := by
  have e : ((xs.map fun x => x.1).take ls.length).length = min ls.length xs.length := by simp
  rw [e, cnt_one hk]
  · constructor
    · intro h j hj jk he on'
      have := h j hj jk
      rw [levs_take (by omega), he] at this
      simp [on'] at this
    · intro h j hj jk
      rw [levs_take (by omega)]
      by_cases c : levT xs j = levT xs k
      · simp [h j hj jk c]
      · have : (decide (levT xs k ≤ levT xs j) && decide (levT xs j ≤ levT xs k)) = false := by
          by_cases d : levT xs k ≤ levT xs j
          · rw [decide_eq_false (show ¬ levT xs j ≤ levT xs k by omega), Bool.and_false]
          · rw [decide_eq_false d, Bool.false_and]
        rw [this, Bool.false_and]
  · rw [levs_take (by omega)]
    simp [on]
def pr_shown_at (K : PySem.W.Frag) (v0 v1 v2 : V) (H : Hp) (Q : VK) (_ : XK) : Prop := ∃ (ls : List (Int × Int)) (xs : List Tri) (k : Nat), ShAt K H v0 v1 ls xs ∧ v2 = .int k ∧ k < min ls.length xs.length ∧ ∀ b H', (b = true ↔ RightAt ls xs k) → Same H H' → Q (.bl b) H'
def t_shown_at (K : PySem.W.Frag) : TS :=
  (tSeq (tAsg (tOp (rIxL K) (tVar 1) (tVar 2)) (gTup K 3 (gCons (gName 3) (gCons (gName 4) (gCons (gName 5) gNil)))))
    (tSeq (tAsg (tLc (iList K (tVar 1)) (gName 7) tYes (tOp (rIxT K) (tVar 7) (tC (.int 0))) [7]) (gName 6))
    (tSeq (tIfS (tOr (tTest (tOp xLt (tVar 3) (tC (.int 1)))) (tOr (tTest (tOp (rIn K true) (tVar 4) (tOp (rIxL K) (tVar 0) (tVar 2)))) (tTest (tOp (rIn K true) (tVar 5) (tCall (sp_hues_of K) [] E0 (tCons (tVar 3) tNil)))))) (tRet (tC (.bl false))) tNext)
    (tSeq (tIfS (tTest (tOp rNe (tCall (sp_many_on K) [] E0 (tCons (tSl (rSlL K) (tVar 0) tNoPart (tPart (tVar 2))) (tCons (tSl (rSlL K) (tVar 6) tNoPart (tPart (tVar 2))) (tCons (tVar 4) (tCons (tCB (rMin K) (tCons (tVar 6) tNil)) (tCons (tOp xSub (tVar 3) (tC (.int 1))) tNil)))))) (tOp xSub (tVar 3) (tC (.int 1))))) (tRet (tC (.bl false))) tNext)
    (tSeq (tIfS (tTest (tOp rNe (tCall (sp_many_on K) [] E0 (tCons (tVar 0) (tCons (tSl (rSlL K) (tVar 6) tNoPart (tPart (tCB (rLen K) (tCons (tVar 0) tNil)))) (tCons (tVar 4) (tCons (tVar 3) (tCons (tVar 3) tNil)))))) (tC (.int 1)))) (tRet (tC (.bl false))) tNext)
    (tRet (tOp (rIn K true) (tVar 5) (tLc (iRng1 (tCons (tVar 2) tNil)) (gName 8) (tB (tCall (sp_meet K) [] E0 (tCons (tOp (rIxL K) (tVar 0) (tVar 2)) (tCons (tOp (rIxL K) (tVar 0) (tVar 8)) tNil)))) (tOp (rIxT K) (tOp (rIxL K) (tVar 1) (tVar 8)) (tC (.int 2))) [8]))))))))
theorem pure_shown_at {v0 v1 v2 : V} {H : Hp} {Q : VK} {E : XK} (h : pr_shown_at K v0 v1 v2 H Q E) : t_shown_at K ⟨fun _ H' => Q .non H', Q, fun _ _ => False, fun _ _ => False⟩ [some v0, some v1, some v2, none, none, none, none, none, none] H := by
  obtain ⟨ls, xs, k, sh, rfl, hk, q⟩ := h
  obtain ⟨d0, d1, l0, l1, ok⟩ := sh
  obtain ⟨p0, zs, rfl, h0, dzs⟩ := dp_list d0
  obtain ⟨p1, us, rfl, h1, dus⟩ := dp_list d1
  have lz : zs.length = ls.length := by rw [dpa_len dzs, List.length_map]
  have lu : us.length = xs.length := by rw [dpa_len dus, List.length_map]
  obtain ⟨z, hz, hz'⟩ := rows_at dzs (show k < ls.length by omega)
  obtain ⟨u, hu, hu'⟩ := tris_at dus (show k < xs.length by omega)
  have rok := rowT_ok ok (show k < ls.length by omega)
  unfold t_shown_at
  wtm_at "s"
  refine k_ixL h1 (atI_nat hu) ?_
  wtm_at "s"
  refine lc_pure h1 xs lu (by omega) (fun x => some (V.int x.1)) ?_ (fun D H1 nD s1 eD => ?_)
  · intro i x y H' hx hy sm R R0 g1 g2
    obtain ⟨d, hd1, hd2⟩ := dpa_get dus hx
    rw [List.getElem?_map, hy] at hd1
    cases hd1
    obtain ⟨c, rfl, hc⟩ := dp_tri hd2
    have hc' := same_seqT sm hc
    wtm_at "s"
    exact g1 _ rfl
  have eD' : H1 D = some (.lst (List.map V.int (xs.map fun x => x.1))) := by
    rw [eD, fm_map, List.map_map]; rfl
  clear eD
  wtm_at "s"
  refine k_it (fun c1 => ?_) (fun c1 => ?_)
  · wtm_at "s"
    exact q _ _ (ff_iff fun z => by have := z.1; omega) s1
  obtain ⟨i, hi, i1, hi'⟩ := lvHues_mem (l := levT xs k) (h := 0) (by omega)
  wtm_at "s"
  refine k_ixL (s1.seq h0) (atI_nat hz) ?_
  wtm_at "s"
  refine k_itn (fun c2 => ?_) (fun c2 => ?_)
  · wtm_at "s"
    exact q _ _ (ff_iff fun z => c2 (tiesI_mem.mpr z.2.1)) s1
  have on : onI (rowT ls k) (tieT xs k) := tiesI_mem.mp c2
  wtm_at "s"
  refine ⟨_, rfl, i, by rw [hi], i1, fun p2 H2 np2 s2 e2 => ?_⟩
  wtm_at "s"
  refine k_itn (fun c3 => ?_) (fun c3 => ?_)
  · wtm_at "s"
    exact q _ _ (ff_iff fun z => c3 (by have := z.2.2.1; rwa [hi'] at this)) (s1.trans s2)
  wtm_at "s"
  have s02 := s1.trans s2
  refine k_slL (s02.seq h0) (fun p3 H3 np3 s3 e3 => ?_)
  rw [cut_to] at e3
  wtm_at "s"
  refine k_slL (sl ((s2.trans s3) _ _ eD')) (fun p4 H4 np4 s4 e4 => ?_)
  rw [cutTo] at e4
  have s14 := s2.trans (s3.trans s4)
  wtm_at "s"
  refine k_min (sl (s14 _ _ eD')) (by simp; omega) (fun mn mn1 mn2 => ?_)
  wtm_at "s"
  have s04 := s1.trans s14
  refine ⟨_, _, _, _, _, rfl, ls.take k, (xs.map fun x => x.1).take k, _, mn, _, .lst (sl (s4 _ _ e3)) (by rw [List.map_take]; exact dpa_take k (dpa_same s04 dzs)), dp_of_ints (sl e4), rfl, rfl, rfl, by simp; omega, by simp; omega, (fun w hw => ok w (List.mem_of_mem_take hw)), fun H5 s5 => ?_⟩
  have ec : (List.range ((xs.map fun x => x.1).take k).length).countP (fun j => (decide (mn ≤ ((xs.map fun x => x.1).take k).getD j 0) && decide (((xs.map fun x => x.1).take k).getD j 0 ≤ levT xs k - 1)) && decide (onI (rowT (ls.take k) j) (tieT xs k))) = cntT ls xs k (levT xs k) (tieT xs k) := by
    unfold cntT
    rw [show ((xs.map fun x => x.1).take k).length = k by simp; omega]
    refine List.countP_congr fun j hj => ?_
    have hj' := List.mem_range.mp hj
    rw [levs_take hj', row_take hj']
    have : mn ≤ levT xs j := mn2 _ (List.mem_map.mpr ⟨_, List.mem_of_getElem? (getT (show j < xs.length by omega)), rfl⟩)
    simp only [Bool.and_eq_true, decide_eq_true_eq]
    exact ⟨fun z => ⟨by have := z.1.2; omega, z.2⟩, fun z => ⟨⟨this, by have := z.1; omega⟩, z.2⟩⟩
  rw [ec]
  wtm_at "s"
  refine k_itn (fun c4 => ?_) (fun c4 => ?_)
  · wtm_at "s"
    exact q _ _ (ff_iff fun z => c4 z.2.2.2.1) (s04.trans s5)
  wtm_at "s"
  have s15 := s14.trans s5
  have s05 := s04.trans s5
  refine k_slL (sl (s15 _ _ eD')) (fun p6 H6 np6 s6 e6 => ?_)
  rw [lz, cutTo] at e6
  wtm_at "s"
  have s06 := s05.trans s6
  refine ⟨_, _, _, _, _, rfl, ls, (xs.map fun x => x.1).take ls.length, _, _, _, dp_same s06 d0, dp_of_ints (sl e6), rfl, rfl, rfl, by simp; omega, by omega, ok, fun H7 s7 => ?_⟩
  have cs := cnt_same hk on
  generalize (List.range ((xs.map fun x => x.1).take ls.length).length).countP _ = C at cs ⊢
  have s07 := s06.trans s7
  wtm_at "s"
  refine k_itn (fun c5 => ?_) (fun c5 => ?_)
  · wtm_at "s"
    exact q _ _ (ff_iff fun z => c5 (by have := cs.mpr z.2.2.2.2.1; omega)) s07
  wtm_at "s"
  refine lc_pureR (by omega) (fun j => if decide (meetI (rowT ls j) (rowT ls k)) = true then some (V.int (hueT xs j)) else none) ?_ (fun D8 H8 nD8 s8 eD8 => ?_)
  · intro j H' hj sm R R0 g1 g2
    have s' := s07.trans sm
    obtain ⟨zj, hzj, hzj'⟩ := rows_at dzs (show j < ls.length by omega)
    obtain ⟨uj, huj, huj'⟩ := tris_at dus (show j < xs.length by omega)
    rw [Int.zero_add]
    wtm_at "s"
    refine k_ixL (s'.seq h0) (atI_nat hz) ?_
    wtm_at "s"
    refine k_ixL (s'.seq h0) (atI_nat hzj) ?_
    wtm_at "s"
    refine ⟨_, _, rfl, z, zj, rowT ls k, rowT ls j, rfl, rfl, s'.seq hz', s'.seq hzj', rok, rowT_ok ok (by omega), ?_⟩
    wtm_at "s"
    refine k_it (fun c => ?_) (fun c => ?_)
    · wtm_at "s"
      refine k_ixL (s'.seq h1) (atI_nat huj) ?_
      have hu2 := same_seqT s' huj'
      wtm_at "s"
      exact g1 _ (if_pos (decide_eq_true (by unfold meetI; omega)))
    · exact g2 (if_neg (by rw [decide_eq_false (show ¬ meetI (rowT ls j) (rowT ls k) by unfold meetI; omega)]; exact Bool.false_ne_true))
  have eD8' : H8 D8 = some (.lst (List.map V.int (((List.range k).filter fun j => decide (meetI (rowT ls j) (rowT ls k))).map fun j => hueT xs j))) := by
    rw [eD8, Int.toNat_natCast]
    congr 2
    induction List.range k with
    | nil => rfl
    | cons a r ih =>
      by_cases c : decide (meetI (rowT ls a) (rowT ls k)) = true
      · rw [List.filterMap_cons, if_pos c, List.filter_cons, if_pos c, List.map_cons, List.map_cons, ih]
      · rw [List.filterMap_cons, if_neg c, List.filter_cons, if_neg c]; exact ih
  wtm_at "s"
  refine q _ _ ?_ (s07.trans s8)
  have iff1 : hueT xs k ∈ (((List.range k).filter fun j => decide (meetI (rowT ls j) (rowT ls k))).map fun j => hueT xs j) ↔ ∃ j, j < k ∧ meetI (rowT ls j) (rowT ls k) ∧ hueT xs j = hueT xs k := by
    rw [List.mem_map]
    constructor
    · rintro ⟨j, hj, e⟩
      obtain ⟨h1, h2⟩ := List.mem_filter.mp hj
      exact ⟨j, List.mem_range.mp h1, by simpa using h2, e⟩
    · rintro ⟨j, h1, h2, h3⟩
      exact ⟨j, List.mem_filter.mpr ⟨List.mem_range.mpr h1, by simpa using h2⟩, h3⟩
  rw [Bool.not_eq_true', decide_eq_false_iff_not, iff1]
  constructor
  · intro h
    exact ⟨by omega, on, by rw [hi']; exact c3, c4, cs.mp (by omega), fun j hj e m => h ⟨j, hj, m, e⟩⟩
  · rintro ⟨_, _, _, _, _, h⟩ ⟨j, h1, h2, h3⟩
    exact h j h1 h3 h2
abbrev sp_shown_at (K : PySem.W.Frag) : Sp := fun vs H Q E => ∃ v0 v1 v2, vs = [v0, v1, v2] ∧ pr_shown_at K v0 v1 v2 H Q E
theorem ok_shown_at (T : Txt K mg A) : FnOk P w K mg base CX0 2 A.a_shown_at A.d_shown_at ["lain", "lines", "k"] (sp_shown_at K) := by
  refine T.F_shown_at.ok sc_shown_at (fun vs H Q E h => by obtain ⟨v0, v1, v2, rfl, _⟩ := h; rfl) (fun cdv A0 outer s H vs Q E hr h => ?_)
  obtain ⟨v0, v1, v2, rfl, h⟩ := h
  exact ⟨t_shown_at K, (pss_cons (ps_asg (pe_ix ix_list (pv 1) (pv 2) (fun _ _ => rfl)) (pg_tup (by rfl) (pgs_cons (pg_name (i := 3) sc_shown_at.nd rfl (Or.inl rfl)) (pgs_cons (pg_name (i := 4) sc_shown_at.nd rfl (Or.inl rfl)) (pgs_cons (pg_name (i := 5) sc_shown_at.nd rfl (Or.inl rfl)) pgs_nil)))))
      (pss_cons (ps_setLc (i := 6) (own := [("line", 7)]) (by rfl) sc_shown_at.nd rfl rfl (sw_true rfl rfl rfl (by decide +kernel)) (pi_list (pv 1)) (blkOk_by (own := [("line", 7)]) (N := ["lain", "lines", "k", "level", "tie", "hue", "levels", "line", "j"]) (sc := defScope s_shown_at) (by decide +kernel)) (fun _ _ _ _ _ => (pg_name (i := 7) sc_shown_at.nd rfl (Or.inl rfl))) (fun _ _ _ _ _ => pts_nil) (fun _ _ _ _ _ => (pe_ix ix_tup (pv 7) pe_int (fun _ _ => rfl))))
      (pss_cons (ps_if (PW.pt (pw_or (pt_cmpR op_lt (pv 3) pe_int (nomark _)) (pw_or (pt_cmpR op_notIn_seq (pv 4) (pe_ix ix_list (pv 0) (pv 2) (fun _ _ => rfl)) (by rfl)) (pw_or1 (pt_cmpR op_notIn_seq (pv 5) (pe_call (ok_hues_of T) (hr.mono (by decide)) (by rfl) T.g_hues_of T.F_hues_of.kp T.b_hues_of .nil pass0 (pa_cons (pv 3) pa_nil)) (by rfl)))))) (pss_one (ps_ret pe_bl)) pss_nil)
      (pss_cons (ps_if (pt_cmpR op_ne (pe_call (ok_many_on T) (hr.mono (by decide)) (by rfl) T.g_many_on T.F_many_on.kp T.b_many_on .nil pass0 (pa_cons (pe_slice sl_list (pv 0) po_none (po_some (pv 2))) (pa_cons (pe_slice sl_list (pv 6) po_none (po_some (pv 2))) (pa_cons (pv 4) (pa_cons (pe_callB (cr_min (by rfl)) (by rfl) T.z_min (by decide +kernel) (pa_cons (pv 6) pa_nil)) (pa_cons (pe_op op_sub (pv 3) pe_int) pa_nil)))))) (pe_op op_sub (pv 3) pe_int) (nomark _)) (pss_one (ps_ret pe_bl)) pss_nil)
      (pss_cons (ps_if (pt_cmpR op_ne (pe_call (ok_many_on T) (hr.mono (by decide)) (by rfl) T.g_many_on T.F_many_on.kp T.b_many_on .nil pass0 (pa_cons (pv 0) (pa_cons (pe_slice sl_list (pv 6) po_none (po_some (pe_callB q_len (by rfl) T.z_len (by decide +kernel) (pa_cons (pv 0) pa_nil)))) (pa_cons (pv 4) (pa_cons (pv 3) (pa_cons (pv 3) pa_nil)))))) pe_int (nomark _)) (pss_one (ps_ret pe_bl)) pss_nil)
      (pss_one (ps_ret (pe_cmpR op_notIn_seq (pv 5) (pe_lc (own := [("j", 8)]) (by rfl) sc_shown_at.nd (pi_range1 (by rfl) T.z_range (pa_cons (pv 2) pa_nil)) (blkOk_by (own := [("j", 8)]) (N := ["lain", "lines", "k", "level", "tie", "hue", "levels", "line", "j"]) (sc := defScope s_shown_at) (by decide +kernel)) (fun _ _ _ _ _ => (pg_name (i := 8) sc_shown_at.nd rfl (Or.inl rfl))) (fun _ _ _ _ _ => (pts_one (pt_val (pe_call (ok_meet T) (hr.mono (by decide)) (by rfl) T.g_meet T.F_meet.kp T.b_meet .nil pass0 (pa_cons (pe_ix ix_list (pv 0) (pv 2) (fun _ _ => rfl)) (pa_cons (pe_ix ix_list (pv 0) (pv 8) (fun _ _ => rfl)) pa_nil)))))) (fun _ _ _ _ _ => (pe_ix ix_tup (pe_ix ix_list (pv 1) (pv 8) (fun _ _ => rfl)) pe_int (fun _ _ => rfl)))) (by rfl))))))))), pure_shown_at h⟩


theorem rows_ok {n : Int} {ws : List (Int × Int)} (wok : ∀ w ∈ ws, isWay (.line n) w.1 w.2) : ∀ w ∈ ws.map tieW, w.1 ≤ w.2 := fun w hw => by
  obtain ⟨v, hv, rfl⟩ := List.mem_map.mp hw
  exact (tieW_ok (wok v hv)).2.1
theorem rows_eq (ws : List (Int × Int)) : (ws.map fun w => dInts (tiesI (tieW w))) = (ws.map tieW).map fun w => dInts (tiesI w) := by
  rw [List.map_map]; rfl
theorem min_if {a b : Nat} : (if (b : Int) < (a : Int) then (b : Int) else (a : Int)).toNat = min a b := by
  split <;> omega
def pr_shows (K : PySem.W.Frag) (v0 v1 v2 : V) (H : Hp) (Q : VK) (_ : XK) : Prop := ∃ (n : Int) (ws : List (Int × Int)) (xs : List Tri), Dp K H v0 (Net.line n).d ∧ (Net.line n).ok ∧ Dp K H v1 (dPairs ws) ∧ Dp K H v2 (dTris xs) ∧ ws.length ≤ 1000 ∧ xs.length ≤ 1000 ∧ (∀ w ∈ ws, isWay (.line n) w.1 w.2) ∧
  ∀ H', Same H H' → Q (optV (dueT (ws.map tieW) xs)) H'
def t_shows (K : PySem.W.Frag) : TS :=
  (tSeq (tDrop (tCall (sp_must_be_kind K) [] E0 (tCons (tVar 0) (tCons (tC (.str (Str.ofString "line"))) tNil))))
    (tSeq (tDrop (tCall (sp_must_be_ways K) [] E0 (tCons (tVar 0) (tCons (tVar 1) tNil))))
    (tSeq (tAsg (tLc (iList K (tVar 1)) (gName 5) tYes (tCall (sp_ties_on K) [] E0 (tCons (tVar 0) (tCons (tVar 5) tNil))) [5]) (gName 3))
    (tSeq (tFor (iRng1 (tCons (tCB rMin2 (tCons (tCB (rLen K) (tCons (tVar 1) tNil)) (tCons (tCB (rLen K) (tCons (tVar 2) tNil)) tNil))) tNil)) (gName 4)
      (tIfS (tNot (tB (tCall (sp_shown_at K) [] E0 (tCons (tVar 3) (tCons (tVar 2) (tCons (tVar 4) tNil)))))) (tRet (tVar 4)) tNext))
    (tSeq (tIfS (tTest (tOp rNe (tCB (rLen K) (tCons (tVar 1) tNil)) (tCB (rLen K) (tCons (tVar 2) tNil)))) (tRet (tCB (rLen K) (tCons (tVar 1) tNil))) tNext)
    (tRet (tC .non)))))))
theorem pure_shows {v0 v1 v2 : V} {H : Hp} {Q : VK} {E : XK} (h : pr_shows K v0 v1 v2 H Q E) : t_shows K ⟨fun _ H' => Q .non H', Q, fun _ _ => False, fun _ _ => False⟩ [some v0, some v1, some v2, none, none, none] H := by
  obtain ⟨n, ws, xs, d0, ok, d1, d2, lw, lx, wok, q⟩ := h
  obtain ⟨b, ys, rfl, hb, hys⟩ := dp_list d1
  obtain ⟨c, us, rfl, hc, hus⟩ := dp_list d2
  have ly : ys.length = ws.length := by rw [dpa_len hys, List.length_map]
  have lu : us.length = xs.length := by rw [dpa_len hus, List.length_map]
  unfold t_shows
  wtm_at "s"
  refine ⟨_, _, rfl, .line n, d0, ok, rfl, ?_⟩
  wtm_at "s"
  refine ⟨_, _, rfl, .line n, ws, d0, d1, by omega, wok, ?_⟩
  wtm_at "s"
  refine lc_dp [] (fun b z => by cases z) hb ws ly (by omega) (fun w => dInts (tiesI (tieW w))) ?_ (fun D zs H1 nD s1 eD dD => ?_) (fun x σ' H q q' h hh => h _ _ hh)
  · intro i x w H' hx hw sm R h1
    obtain ⟨w', c', hw', rfl, hc'⟩ := dpairs_get hys hx
    obtain rfl := Option.some.inj (hw'.symm.trans hw)
    wtm_at "s"
    refine ⟨_, _, rfl, .line n, w'.1, w'.2, dp_same sm d0, dp_of_pair (same_seqT sm hc'), ok, wok w' (List.mem_of_getElem? hw), fun p ns H'' np s' hp ti => ?_⟩
    obtain rfl := line_ties ti
    exact h1 _ _ s' (fun S hS => dp_of_ints (sl (by rw [hid_ne (fun z => hS p z np)]; exact hp)))
  have sh : ShAt K H1 (.ref D) (.ref c) (ws.map tieW) xs := ⟨.lst (sl eD) (by rw [← rows_eq]; exact dpa_same (hid_same _ _) dD), dp_same s1 d2, by simp; omega, by omega, rows_ok wok⟩
  wtm_at "s"
  rw [ly, lu, min_if]
  refine forR (fun i σ' H' => Same H1 H' ∧ (∀ j, j < i → RightAt (ws.map tieW) xs j) ∧ ∃ k4, σ' = [some v0, some (.ref b), some (.ref c), some (.ref D), k4, none]) ⟨Same.refl _, (fun j z => by omega), _, rfl⟩ ?_ ?_
  · rintro i σ' H' hi ⟨sm, ri, k4, rfl⟩
    rw [Int.zero_add]
    wtm_at "s"
    refine ⟨_, _, _, rfl, ws.map tieW, xs, i, sh.same sm, rfl, by rw [List.length_map]; exact hi, fun r H2 hr s2 => ?_⟩
    wtm_at "s"
    cases r with
    | true =>
      wtm_at "s"
      refine ⟨sm.trans s2, fun j hj => ?_, _, rfl⟩
      by_cases e : j = i
      · subst e; exact hr.mp rfl
      · exact ri j (by omega)
    | false =>
      wtm_at "s"
      have := q H2 (s1.trans (sm.trans s2))
      rw [due_at (by rw [List.length_map]; exact hi) ri (fun z => by have := hr.mpr z; cases this)] at this
      exact this
  · rintro σ' H' ⟨sm, ri, k4, rfl⟩
    have := q H' (s1.trans sm)
    rw [due_all (by rw [List.length_map]; exact ri), List.length_map] at this
    have hb' := (s1.trans sm).seq hb
    have hc' := (s1.trans sm).seq hc
    wtm_at "s"
    rw [ly, lu]
    refine k_itn (fun e => ?_) (fun e => ?_)
    · rw [if_neg (by omega)] at this
      wtm_at "s"
      rw [ly]
      exact this
    · rw [if_pos (by omega)] at this
      wtm_at "s"
      exact this
abbrev sp_shows (K : PySem.W.Frag) : Sp := fun vs H Q E => ∃ v0 v1 v2, vs = [v0, v1, v2] ∧ pr_shows K v0 v1 v2 H Q E
theorem ok_shows (T : Txt K mg A) : FnOk P w K mg base CX0 4 A.a_shows A.d_shows ["net", "ways", "lines"] (sp_shows K) := by
  refine T.F_shows.ok sc_shows (fun vs H Q E h => by obtain ⟨v0, v1, v2, rfl, _⟩ := h; rfl) (fun cdv A0 outer s H vs Q E hr h => ?_)
  obtain ⟨v0, v1, v2, rfl, h⟩ := h
  exact ⟨t_shows K, (pss_cons (ps_expr (pe_call (ok_must_be_kind T) (hr.mono (by decide)) (by rfl) T.g_must_be_kind T.F_must_be_kind.kp T.b_must_be_kind .nil pass0 (pa_cons (pv 0) (pa_cons pe_str pa_nil))))
      (pss_cons (ps_expr (pe_call (ok_must_be_ways T) (hr.mono (by decide)) (by rfl) T.g_must_be_ways T.F_must_be_ways.kp T.b_must_be_ways .nil pass0 (pa_cons (pv 0) (pa_cons (pv 1) pa_nil))))
      (pss_cons (ps_setLc (i := 3) (own := [("way", 5)]) (by rfl) sc_shows.nd rfl rfl (sw_true rfl rfl rfl (by decide +kernel)) (pi_list (pv 1)) (blkOk_by (own := [("way", 5)]) (N := ["net", "ways", "lines", "lain", "k", "way"]) (sc := defScope s_shows) (by decide +kernel)) (fun _ _ _ _ _ => (pg_name (i := 5) sc_shows.nd rfl (Or.inl rfl))) (fun _ _ _ _ _ => pts_nil) (fun _ _ _ _ _ => (pe_call (ok_ties_on T) (hr.mono (by decide)) (by rfl) T.g_ties_on T.F_ties_on.kp T.b_ties_on .nil pass0 (pa_cons (pv 0) (pa_cons (pv 5) pa_nil)))))
      (pss_cons (ps_for PassesOwn.never rfl (pi_range1 (by rfl) T.z_range (pa_cons (pe_callB (q_min2 (by rfl)) (by rfl) T.z_min (by decide +kernel) (pa_cons (pe_callB q_len (by rfl) T.z_len (by decide +kernel) (pa_cons (pv 1) pa_nil)) (pa_cons (pe_callB q_len (by rfl) T.z_len (by decide +kernel) (pa_cons (pv 2) pa_nil)) pa_nil))) pa_nil)) (pg_name (i := 4) sc_shows.nd rfl (Or.inl rfl))
      (pss_one (ps_if (pt_not (pt_val (pe_call (ok_shown_at T) (hr.mono (by decide)) (by rfl) T.g_shown_at T.F_shown_at.kp T.b_shown_at .nil pass0 (pa_cons (pv 3) (pa_cons (pv 2) (pa_cons (pv 4) pa_nil)))))) (pss_one (ps_ret (pv 4))) pss_nil)))
      (pss_cons (ps_if (pt_cmpR op_ne (pe_callB q_len (by rfl) T.z_len (by decide +kernel) (pa_cons (pv 1) pa_nil)) (pe_callB q_len (by rfl) T.z_len (by decide +kernel) (pa_cons (pv 2) pa_nil)) (nomark _)) (pss_one (ps_ret (pe_callB q_len (by rfl) T.z_len (by decide +kernel) (pa_cons (pv 1) pa_nil)))) pss_nil)
      (pss_one (ps_ret pe_non))))))), pure_shows h⟩


theorem cnt0 {n : Nat} {P : Nat → Bool} : (List.range n).countP P = 0 ↔ ∀ j, j < n → P j = false := by
  rw [List.countP_eq_zero]
  exact ⟨fun h j hj => by simpa using h j (List.mem_range.mpr hj), fun h j hj => by simp [h j (List.mem_range.mp hj)]⟩
def pr_law_right_at (K : PySem.W.Frag) (v0 v1 v2 : V) (H : Hp) (Q : VK) (_ : XK) : Prop := ∃ (ls : List (Int × Int)) (xs : List Tri) (k : Nat), ShAt K H v0 v1 ls xs ∧ v2 = .int k ∧ k < min ls.length xs.length ∧ ∀ b H', (b = true ↔ RightAt ls xs k) → Same H H' → Q (.bl b) H'
def t_law_right_at (K : PySem.W.Frag) : TS :=
  (tSeq (tAsg (tOp (rIxL K) (tVar 1) (tVar 2)) (gTup K 3 (gCons (gName 3) (gCons (gName 4) (gCons (gName 5) gNil)))))
    (tSeq (tAsg (tLc (iList K (tSl (rSlL K) (tVar 1) tNoPart (tPart (tCB (rLen K) (tCons (tVar 0) tNil))))) (gName 7) tYes (tOp (rIxT K) (tVar 7) (tC (.int 0))) [7]) (gName 6))
    (tSeq (tIfS (tOr (tTest (tOp xLt (tVar 3) (tC (.int 1)))) (tOr (tTest (tOp (rIn K true) (tVar 4) (tOp (rIxL K) (tVar 0) (tVar 2)))) (tNot (tB (tCall (sp_law_of_level K) [] E0 (tCons (tVar 5) (tCons (tVar 3) tNil))))))) (tRet (tC (.bl false))) tNext)
    (tSeq (tIfS (tTest (tOp rNe (tCB (rLen K) (tCons (tLc (iRng1 (tCons (tVar 2) tNil)) (gName 8) (tAnd (tTest (tOp xLt (tOp (rIxL K) (tVar 6) (tVar 8)) (tVar 3))) (tB (tCall (sp_law_on K) [] E0 (tCons (tOp (rIxL K) (tVar 0) (tVar 8)) (tCons (tVar 4) tNil))))) (tVar 8) [8]) tNil)) (tOp xSub (tVar 3) (tC (.int 1))))) (tRet (tC (.bl false))) tNext)
    (tSeq (tIfS (tTest (tOp xGt (tCB (rLen K) (tCons (tLc (iRng1 (tCons (tCB (rLen K) (tCons (tVar 6) tNil)) tNil)) (gName 8) (tAnd (tTest (tOp rNe (tVar 8) (tVar 2))) (tAnd (tTest (tOp rEq (tOp (rIxL K) (tVar 6) (tVar 8)) (tVar 3))) (tB (tCall (sp_law_on K) [] E0 (tCons (tOp (rIxL K) (tVar 0) (tVar 8)) (tCons (tVar 4) tNil)))))) (tVar 8) [8]) tNil)) (tC (.int 0)))) (tRet (tC (.bl false))) tNext)
    (tRet (tOp rEq (tCB (rLen K) (tCons (tLc (iRng1 (tCons (tVar 2) tNil)) (gName 8) (tAnd (tTest (tOp rEq (tOp (rIxT K) (tOp (rIxL K) (tVar 1) (tVar 8)) (tC (.int 2))) (tVar 5))) (tB (tCall (sp_law_meet K) [] E0 (tCons (tOp (rIxL K) (tVar 0) (tVar 8)) (tCons (tOp (rIxL K) (tVar 0) (tVar 2)) tNil))))) (tVar 8) [8]) tNil)) (tC (.int 0)))))))))
theorem pure_law_right_at {v0 v1 v2 : V} {H : Hp} {Q : VK} {E : XK} (h : pr_law_right_at K v0 v1 v2 H Q E) : t_law_right_at K ⟨fun _ H' => Q .non H', Q, fun _ _ => False, fun _ _ => False⟩ [some v0, some v1, some v2, none, none, none, none, none, none] H := by
  obtain ⟨ls, xs, k, sh, rfl, hk, q⟩ := h
  obtain ⟨d0, d1, l0, l1, ok⟩ := sh
  obtain ⟨p0, zs, rfl, h0, dzs⟩ := dp_list d0
  obtain ⟨p1, us, rfl, h1, dus⟩ := dp_list d1
  have lz : zs.length = ls.length := by rw [dpa_len dzs, List.length_map]
  have lu : us.length = xs.length := by rw [dpa_len dus, List.length_map]
  obtain ⟨z, hz, hz'⟩ := rows_at dzs (show k < ls.length by omega)
  obtain ⟨u, hu, hu'⟩ := tris_at dus (show k < xs.length by omega)
  have rok := rowT_ok ok (show k < ls.length by omega)
  unfold t_law_right_at
  wtm_at "s"
  refine k_ixL h1 (atI_nat hu) ?_
  wtm_at "s"
  refine k_slL h1 (fun p2 H0 np2 s0 e2 => ?_)
  rw [lz, cut_to] at e2
  refine lc_pure (sl e2) (xs.take ls.length) (by simp; omega) (by simp; omega) (fun x => some (V.int x.1)) ?_ (fun D H1 nD s1 eD => ?_)
  · intro i x y H' hx hy sm R R0 g1 g2
    obtain ⟨d, hd1, hd2⟩ := dpa_get (dpa_take ls.length dus) hx
    rw [← List.map_take, List.getElem?_map, hy] at hd1
    cases hd1
    obtain ⟨c, rfl, hc⟩ := dp_tri hd2
    have hc' := same_seqT (s0.trans sm) hc
    wtm_at "s"
    exact g1 _ rfl
  have eD' : H1 D = some (.lst (List.map V.int ((xs.map fun x => x.1).take ls.length))) := by
    rw [eD, fm_map, ← List.map_take, List.map_map]; rfl
  have s01 := s0.trans s1
  clear eD
  have lvl : ((xs.map fun x => x.1).take ls.length).length = min ls.length xs.length := by simp
  have lvAt : ∀ j, j < min ls.length xs.length → ((xs.map fun x => x.1).take ls.length).getD j 0 = levT xs j := fun j hj => levs_take (by omega)
  wtm_at "s"
  refine k_it (fun c1 => ?_) (fun c1 => ?_)
  · wtm_at "s"
    exact q _ _ (ff_iff fun z => by have := z.1; omega) s01
  obtain ⟨i, hi, i1, hi'⟩ := lvHues_mem (l := levT xs k) (h := 0) (by omega)
  wtm_at "s"
  refine k_ixL (s01.seq h0) (atI_nat hz) ?_
  have hz1 := s01.seq hz'
  wtm_at "s"
  refine k_itn (fun c2 => ?_) (fun c2 => ?_)
  · wtm_at "s"
    exact q _ _ (ff_iff fun z => c2 (tiesI_mem.mpr z.2.1)) s01
  have on : onI (rowT ls k) (tieT xs k) := tiesI_mem.mp c2
  wtm_at "s"
  refine ⟨_, _, rfl, _, i, rfl, by rw [hi], i1, ?_⟩
  wtm_at "s"
  refine k_itn (fun c3 => ?_) (fun c3 => ?_)
  · wtm_at "s"
    exact q _ _ (ff_iff fun z => c3 (by have := z.2.2.1; rwa [hi'] at this)) s01
  wtm_at "s"
  refine lc_pureR (by omega) (fun j => if (decide (levT xs j < levT xs k) && decide (onI (rowT ls j) (tieT xs k))) = true then some (V.int (0 + (j : Nat))) else none) ?_ (fun D2 H2 nD2 s2 eD2 => ?_)
  · intro j H' hj sm R R0 g1 g2
    have hj' : j < min ls.length xs.length := by omega
    obtain ⟨zj, hzj, hzj'⟩ := rows_at dzs (show j < ls.length by omega)
    have s' := s01.trans sm
    rw [Int.zero_add] at g1 ⊢
    wtm_at "s"
    refine k_ixI (sl (sm _ _ eD')) (by omega) (by rw [lvl]; omega) ?_
    rw [Int.toNat_natCast, lvAt j hj']
    wtm_at "s"
    refine k_it (fun c => ?_) (fun c => ?_)
    · wtm_at "s"
      refine k_ixL (s'.seq h0) (atI_nat hzj) ?_
      wtm_at "s"
      refine ⟨_, _, rfl, zj, rowT ls j, _, rfl, rfl, s'.seq hzj', rowT_ok ok (by omega), ?_⟩
      wtm_at "s"
      refine k_it (fun d => ?_) (fun d => ?_)
      · wtm_at "s"
        exact g1 _ (if_pos (by rw [decide_eq_true c, decide_eq_true d]; rfl))
      · exact g2 (if_neg (by rw [decide_eq_false d, Bool.and_false]; exact Bool.false_ne_true))
    · exact g2 (if_neg (by rw [decide_eq_false c, Bool.false_and]; exact Bool.false_ne_true))
  have s02 := s01.trans s2
  wtm_at "s"
  rw [fm_len, Int.toNat_natCast]
  refine k_itn (fun c4 => ?_) (fun c4 => ?_)
  · wtm_at "s"
    exact q _ _ (ff_iff fun z => c4 z.2.2.2.1) s02
  have eD2' := s2 _ _ eD'
  wtm_at "s"
  refine lc_pureR (by omega) (fun j => if (!decide (j = k) && (decide (levT xs j = levT xs k) && decide (onI (rowT ls j) (tieT xs k)))) = true then some (V.int (0 + (j : Nat))) else none) ?_ (fun D3 H3 nD3 s3 eD3 => ?_)
  · intro j H' hj sm R R0 g1 g2
    have hj' : j < min ls.length xs.length := by omega
    obtain ⟨zj, hzj, hzj'⟩ := rows_at dzs (show j < ls.length by omega)
    have s' := s02.trans sm
    rw [Int.zero_add] at g1 ⊢
    wtm_at "s"
    refine k_itn (fun c => ?_) (fun c => ?_)
    · have c' : ¬ j = k := by omega
      wtm_at "s"
      refine k_ixI (sl (sm _ _ eD2')) (by omega) (by rw [lvl]; omega) ?_
      rw [Int.toNat_natCast, lvAt j hj']
      wtm_at "s"
      refine k_it (fun d => ?_) (fun d => ?_)
      · wtm_at "s"
        refine k_ixL (s'.seq h0) (atI_nat hzj) ?_
        wtm_at "s"
        refine ⟨_, _, rfl, zj, rowT ls j, _, rfl, rfl, s'.seq hzj', rowT_ok ok (by omega), ?_⟩
        wtm_at "s"
        refine k_it (fun e => ?_) (fun e => ?_)
        · wtm_at "s"
          exact g1 _ (if_pos (by rw [decide_eq_false c', decide_eq_true d, decide_eq_true e]; rfl))
        · exact g2 (if_neg (by rw [decide_eq_false e]; simp))
      · exact g2 (if_neg (by rw [decide_eq_false d]; simp))
    · exact g2 (if_neg (by rw [decide_eq_true (show j = k by omega)]; simp))
  have s03 := s02.trans s3
  wtm_at "s"
  rw [fm_len, Int.toNat_natCast, lvl]
  refine k_it (fun c5 => ?_) (fun c5 => ?_)
  · wtm_at "s"
    refine q _ _ (ff_iff fun y => ?_) s03
    have : (List.range (min ls.length xs.length)).countP (fun j => (!decide (j = k) && (decide (levT xs j = levT xs k) && decide (onI (rowT ls j) (tieT xs k))))) = 0 := cnt0.mpr fun j hj => by
      by_cases a : j = k
      · simp [a]
      · by_cases b : levT xs j = levT xs k
        · have := y.2.2.2.2.1 j hj a b
          simp [this]
        · simp [b]
    omega
  have alone : ∀ j, j < min ls.length xs.length → j ≠ k → levT xs j = levT xs k → ¬ onI (rowT ls j) (tieT xs k) := fun j hj a b on' => by
    have := cnt0.mp (show (List.range (min ls.length xs.length)).countP (fun j => (!decide (j = k) && (decide (levT xs j = levT xs k) && decide (onI (rowT ls j) (tieT xs k))))) = 0 by omega) j hj
    simp [a, b, on'] at this
  wtm_at "s"
  refine lc_pureR (by omega) (fun j => if (decide (hueT xs j = hueT xs k) && decide (meetI (rowT ls j) (rowT ls k))) = true then some (V.int (0 + (j : Nat))) else none) ?_ (fun D4 H4 nD4 s4 eD4 => ?_)
  · intro j H' hj sm R R0 g1 g2
    obtain ⟨zj, hzj, hzj'⟩ := rows_at dzs (show j < ls.length by omega)
    obtain ⟨uj, huj, huj'⟩ := tris_at dus (show j < xs.length by omega)
    have s' := s03.trans sm
    have huj2 := same_seqT s' huj'
    rw [Int.zero_add] at g1 ⊢
    wtm_at "s"
    refine k_ixL (s'.seq h1) (atI_nat huj) ?_
    wtm_at "s"
    refine k_it (fun c => ?_) (fun c => ?_)
    · wtm_at "s"
      refine k_ixL (s'.seq h0) (atI_nat hzj) ?_
      wtm_at "s"
      refine k_ixL (s'.seq h0) (atI_nat hz) ?_
      wtm_at "s"
      refine ⟨_, _, rfl, zj, z, rowT ls j, rowT ls k, rfl, rfl, s'.seq hzj', s'.seq hz', rowT_ok ok (by omega), rok, ?_⟩
      wtm_at "s"
      refine k_it (fun d => ?_) (fun d => ?_)
      · wtm_at "s"
        exact g1 _ (if_pos (by rw [decide_eq_true c, decide_eq_true (show meetI (rowT ls j) (rowT ls k) from d)]; rfl))
      · exact g2 (if_neg (by rw [decide_eq_false (show ¬ meetI (rowT ls j) (rowT ls k) from d), Bool.and_false]; exact Bool.false_ne_true))
    · exact g2 (if_neg (by rw [decide_eq_false c, Bool.false_and]; exact Bool.false_ne_true))
  wtm_at "s"
  rw [fm_len, Int.toNat_natCast]
  refine q _ _ ?_ (s03.trans s4)
  rw [decide_eq_true_eq]
  have hc : (((List.range k).countP (fun j => decide (hueT xs j = hueT xs k) && decide (meetI (rowT ls j) (rowT ls k))) : Nat) : Int) = 0 ↔ ∀ j, j < k → hueT xs j = hueT xs k → ¬ meetI (rowT ls j) (rowT ls k) := by
    rw [show (((List.range k).countP (fun j => decide (hueT xs j = hueT xs k) && decide (meetI (rowT ls j) (rowT ls k))) : Nat) : Int) = 0 ↔ (List.range k).countP (fun j => decide (hueT xs j = hueT xs k) && decide (meetI (rowT ls j) (rowT ls k))) = 0 by omega, cnt0]
    exact ⟨fun h j hj a b => by have := h j hj; simp [a, b] at this, fun h j hj => by
      by_cases a : hueT xs j = hueT xs k
      · simp [h j hj a]
      · simp [a]⟩
  rw [hc]
  exact ⟨fun y => ⟨by omega, on, by rw [hi']; exact c3, c4, alone, y⟩, fun y => y.2.2.2.2.2⟩
abbrev sp_law_right_at (K : PySem.W.Frag) : Sp := fun vs H Q E => ∃ v0 v1 v2, vs = [v0, v1, v2] ∧ pr_law_right_at K v0 v1 v2 H Q E
theorem ok_law_right_at (T : Txt K mg A) : FnOk P w K mg base CX0 2 A.a_law_right_at A.d_law_right_at ["_law_lain_here", "_law_lines", "_law_k"] (sp_law_right_at K) := by
  refine T.F_law_right_at.ok sc_law_right_at (fun vs H Q E h => by obtain ⟨v0, v1, v2, rfl, _⟩ := h; rfl) (fun cdv A0 outer s H vs Q E hr h => ?_)
  obtain ⟨v0, v1, v2, rfl, h⟩ := h
  exact ⟨t_law_right_at K, (pss_cons (ps_asg (pe_ix ix_list (pv 1) (pv 2) (fun _ _ => rfl)) (pg_tup (by rfl) (pgs_cons (pg_name (i := 3) sc_law_right_at.nd rfl (Or.inr rfl)) (pgs_cons (pg_name (i := 4) sc_law_right_at.nd rfl (Or.inr rfl)) (pgs_cons (pg_name (i := 5) sc_law_right_at.nd rfl (Or.inr rfl)) pgs_nil)))))
      (pss_cons (ps_set (i := 6) sc_law_right_at.nd rfl (Or.inr rfl) (pe_lc (own := [("_law_line_here", 7)]) (by rfl) sc_law_right_at.nd (pi_list (pe_slice sl_list (pv 1) po_none (po_some (pe_callB q_len (by rfl) T.z_len (by decide +kernel) (pa_cons (pv 0) pa_nil))))) (blkOk_by (own := [("_law_line_here", 7)]) (N := ["_law_lain_here", "_law_lines", "_law_k", "_law_level", "_law_tie", "_law_hue", "_law_levels", "_law_line_here", "_law_j"]) (sc := defScope s_law_right_at) (by decide +kernel)) (fun _ _ _ _ _ => (pg_name (i := 7) sc_law_right_at.nd rfl (Or.inl rfl))) (fun _ _ _ _ _ => pts_nil) (fun _ _ _ _ _ => (pe_ix ix_tup (pv 7) pe_int (fun _ _ => rfl)))))
      (pss_cons (ps_if (PW.pt (pw_or (pt_cmpR op_lt (pv 3) pe_int (nomark _)) (pw_or (pt_cmpR op_notIn_seq (pv 4) (pe_ix ix_list (pv 0) (pv 2) (fun _ _ => rfl)) (by rfl)) (pw_or1 (pt_not (pt_val (pe_call (ok_law_of_level T) (hr.mono (by decide)) (by rfl) T.g_law_of_level T.F_law_of_level.kp T.b_law_of_level .nil pass0 (pa_cons (pv 5) (pa_cons (pv 3) pa_nil))))))))) (pss_one (ps_ret pe_bl)) pss_nil)
      (pss_cons (ps_if (pt_cmpR op_ne (pe_callB q_len (by rfl) T.z_len (by decide +kernel) (pa_cons (pe_lc (own := [("_law_j", 8)]) (by rfl) sc_law_right_at.nd (pi_range1 (by rfl) T.z_range (pa_cons (pv 2) pa_nil)) (blkOk_by (own := [("_law_j", 8)]) (N := ["_law_lain_here", "_law_lines", "_law_k", "_law_level", "_law_tie", "_law_hue", "_law_levels", "_law_line_here", "_law_j"]) (sc := defScope s_law_right_at) (by decide +kernel)) (fun _ _ _ _ _ => (pg_name (i := 8) sc_law_right_at.nd rfl (Or.inl rfl))) (fun _ _ _ _ _ => (pts_one (PW.pt (pw_and (pt_cmpR op_lt (pe_ix ix_list (pv 6) (pv 8) (fun _ _ => rfl)) (pv 3) (nomark _)) (pw_and1 (pt_val (pe_call (ok_law_on T) (hr.mono (by decide)) (by rfl) T.g_law_on T.F_law_on.kp T.b_law_on .nil pass0 (pa_cons (pe_ix ix_list (pv 0) (pv 8) (fun _ _ => rfl)) (pa_cons (pv 4) pa_nil))))))))) (fun _ _ _ _ _ => (pv 8))) pa_nil)) (pe_op op_sub (pv 3) pe_int) (nomark _)) (pss_one (ps_ret pe_bl)) pss_nil)
      (pss_cons (ps_if (pt_cmpR op_gt (pe_callB q_len (by rfl) T.z_len (by decide +kernel) (pa_cons (pe_lc (own := [("_law_j", 8)]) (by rfl) sc_law_right_at.nd (pi_range1 (by rfl) T.z_range (pa_cons (pe_callB q_len (by rfl) T.z_len (by decide +kernel) (pa_cons (pv 6) pa_nil)) pa_nil)) (blkOk_by (own := [("_law_j", 8)]) (N := ["_law_lain_here", "_law_lines", "_law_k", "_law_level", "_law_tie", "_law_hue", "_law_levels", "_law_line_here", "_law_j"]) (sc := defScope s_law_right_at) (by decide +kernel)) (fun _ _ _ _ _ => (pg_name (i := 8) sc_law_right_at.nd rfl (Or.inl rfl))) (fun _ _ _ _ _ => (pts_one (PW.pt (pw_and (pt_cmpR op_ne (pv 8) (pv 2) (nomark _)) (pw_and (pt_cmpR op_eq (pe_ix ix_list (pv 6) (pv 8) (fun _ _ => rfl)) (pv 3) (nomark _)) (pw_and1 (pt_val (pe_call (ok_law_on T) (hr.mono (by decide)) (by rfl) T.g_law_on T.F_law_on.kp T.b_law_on .nil pass0 (pa_cons (pe_ix ix_list (pv 0) (pv 8) (fun _ _ => rfl)) (pa_cons (pv 4) pa_nil)))))))))) (fun _ _ _ _ _ => (pv 8))) pa_nil)) pe_int (nomark _)) (pss_one (ps_ret pe_bl)) pss_nil)
      (pss_one (ps_ret (pe_cmpR op_eq (pe_callB q_len (by rfl) T.z_len (by decide +kernel) (pa_cons (pe_lc (own := [("_law_j", 8)]) (by rfl) sc_law_right_at.nd (pi_range1 (by rfl) T.z_range (pa_cons (pv 2) pa_nil)) (blkOk_by (own := [("_law_j", 8)]) (N := ["_law_lain_here", "_law_lines", "_law_k", "_law_level", "_law_tie", "_law_hue", "_law_levels", "_law_line_here", "_law_j"]) (sc := defScope s_law_right_at) (by decide +kernel)) (fun _ _ _ _ _ => (pg_name (i := 8) sc_law_right_at.nd rfl (Or.inl rfl))) (fun _ _ _ _ _ => (pts_one (PW.pt (pw_and (pt_cmpR op_eq (pe_ix ix_tup (pe_ix ix_list (pv 1) (pv 8) (fun _ _ => rfl)) pe_int (fun _ _ => rfl)) (pv 5) (nomark _)) (pw_and1 (pt_val (pe_call (ok_law_meet T) (hr.mono (by decide)) (by rfl) T.g_law_meet T.F_law_meet.kp T.b_law_meet .nil pass0 (pa_cons (pe_ix ix_list (pv 0) (pv 8) (fun _ _ => rfl)) (pa_cons (pe_ix ix_list (pv 0) (pv 2) (fun _ _ => rfl)) pa_nil))))))))) (fun _ _ _ _ _ => (pv 8))) pa_nil)) pe_int (nomark _))))))))), pure_law_right_at h⟩
def pr_law_due (K : PySem.W.Frag) (v0 v1 : V) (H : Hp) (Q : VK) (_ : XK) : Prop := ∃ (ls : List (Int × Int)) (xs : List Tri), ShAt K H v0 v1 ls xs ∧ ∀ H', Same H H' → Q (optV (dueT ls xs)) H'
def t_law_due (K : PySem.W.Frag) : TS :=
  (tSeq (tFor (iRng1 (tCons (tCB rMin2 (tCons (tCB (rLen K) (tCons (tVar 0) tNil)) (tCons (tCB (rLen K) (tCons (tVar 1) tNil)) tNil))) tNil)) (gName 2)
      (tIfS (tNot (tB (tCall (sp_law_right_at K) [] E0 (tCons (tVar 0) (tCons (tVar 1) (tCons (tVar 2) tNil)))))) (tRet (tVar 2)) tNext))
    (tSeq (tIfS (tTest (tOp rNe (tCB (rLen K) (tCons (tVar 0) tNil)) (tCB (rLen K) (tCons (tVar 1) tNil)))) (tRet (tCB (rLen K) (tCons (tVar 0) tNil))) tNext)
    (tRet (tC .non))))
theorem pure_law_due {v0 v1 : V} {H : Hp} {Q : VK} {E : XK} (h : pr_law_due K v0 v1 H Q E) : t_law_due K ⟨fun _ H' => Q .non H', Q, fun _ _ => False, fun _ _ => False⟩ [some v0, some v1, none] H := by
  obtain ⟨ls, xs, sh, q⟩ := h
  obtain ⟨b, ys, rfl, hb, hys⟩ := dp_list sh.d0
  obtain ⟨c, us, rfl, hc, hus⟩ := dp_list sh.d1
  have ly : ys.length = ls.length := by rw [dpa_len hys, List.length_map]
  have lu : us.length = xs.length := by rw [dpa_len hus, List.length_map]
  have l0 := sh.l0
  have l1 := sh.l1
  unfold t_law_due
  wtm_at "s"
  rw [ly, lu, min_if]
  refine forR (fun i σ' H' => Same H H' ∧ (∀ j, j < i → RightAt ls xs j) ∧ ∃ k2, σ' = [some (.ref b), some (.ref c), k2]) ⟨Same.refl _, (fun j z => by omega), _, rfl⟩ ?_ ?_
  · rintro i σ' H' hi ⟨sm, ri, k4, rfl⟩
    rw [Int.zero_add]
    wtm_at "s"
    refine ⟨_, _, _, rfl, ls, xs, i, sh.same sm, rfl, hi, fun r H2 hr s2 => ?_⟩
    wtm_at "s"
    cases r with
    | true =>
      wtm_at "s"
      refine ⟨sm.trans s2, fun j hj => ?_, _, rfl⟩
      by_cases e : j = i
      · subst e; exact hr.mp rfl
      · exact ri j (by omega)
    | false =>
      wtm_at "s"
      have := q H2 (sm.trans s2)
      rw [due_at hi ri (fun z => by have := hr.mpr z; cases this)] at this
      exact this
  · rintro σ' H' ⟨sm, ri, k4, rfl⟩
    have := q H' sm
    rw [due_all ri] at this
    have hb' := sm.seq hb
    have hc' := sm.seq hc
    wtm_at "s"
    rw [ly, lu]
    refine k_itn (fun e => ?_) (fun e => ?_)
    · rw [if_neg (by omega)] at this
      wtm_at "s"
      rw [ly]
      exact this
    · rw [if_pos (by omega)] at this
      wtm_at "s"
      exact this
abbrev sp_law_due (K : PySem.W.Frag) : Sp := fun vs H Q E => ∃ v0 v1, vs = [v0, v1] ∧ pr_law_due K v0 v1 H Q E
theorem ok_law_due (T : Txt K mg A) : FnOk P w K mg base CX0 3 A.a_law_due A.d_law_due ["_law_lain_here", "_law_lines"] (sp_law_due K) := by
  refine T.F_law_due.ok sc_law_due (fun vs H Q E h => by obtain ⟨v0, v1, rfl, _⟩ := h; rfl) (fun cdv A0 outer s H vs Q E hr h => ?_)
  obtain ⟨v0, v1, rfl, h⟩ := h
  exact ⟨t_law_due K, (pss_cons (ps_for PassesOwn.never rfl (pi_range1 (by rfl) T.z_range (pa_cons (pe_callB (q_min2 (by rfl)) (by rfl) T.z_min (by decide +kernel) (pa_cons (pe_callB q_len (by rfl) T.z_len (by decide +kernel) (pa_cons (pv 0) pa_nil)) (pa_cons (pe_callB q_len (by rfl) T.z_len (by decide +kernel) (pa_cons (pv 1) pa_nil)) pa_nil))) pa_nil)) (pg_name (i := 2) sc_law_due.nd rfl (Or.inl rfl))
      (pss_one (ps_if (pt_not (pt_val (pe_call (ok_law_right_at T) (hr.mono (by decide)) (by rfl) T.g_law_right_at T.F_law_right_at.kp T.b_law_right_at .nil pass0 (pa_cons (pv 0) (pa_cons (pv 1) (pa_cons (pv 2) pa_nil)))))) (pss_one (ps_ret (pv 2))) pss_nil)))
      (pss_cons (ps_if (pt_cmpR op_ne (pe_callB q_len (by rfl) T.z_len (by decide +kernel) (pa_cons (pv 0) pa_nil)) (pe_callB q_len (by rfl) T.z_len (by decide +kernel) (pa_cons (pv 1) pa_nil)) (nomark _)) (pss_one (ps_ret (pe_callB q_len (by rfl) T.z_len (by decide +kernel) (pa_cons (pv 0) pa_nil)))) pss_nil)
      (pss_one (ps_ret pe_non)))), pure_law_due h⟩


/-- some lines -/
def Tris (K : PySem.W.Frag) (H : Hp) (vs : List V) (n : Nat) : Prop := ∃ ts : List Tri, DpAll K H vs (ts.map dTri) ∧ ts.length ≤ n
theorem Tris.same {H H' : Hp} {vs : List V} {n : Nat} (h : Tris K H vs n) (s : Same H H') : Tris K H' vs n := by
  obtain ⟨ts, h1, h2⟩ := h
  exact ⟨ts, dpa_same s h1, h2⟩
theorem Tris.len {H : Hp} {vs : List V} {n : Nat} (h : Tris K H vs n) : vs.length ≤ n := by
  obtain ⟨ts, h1, h2⟩ := h
  rw [dpa_len h1, List.length_map]; exact h2
theorem Tris.mono {H : Hp} {vs : List V} {n m : Nat} (h : Tris K H vs n) (l : n ≤ m) : Tris K H vs m := by
  obtain ⟨ts, h1, h2⟩ := h
  exact ⟨ts, h1, by omega⟩
theorem Tris.app {H : Hp} {vs us : List V} {n m : Nat} (h : Tris K H vs n) (h' : Tris K H us m) : Tris K H (vs ++ us) (n + m) := by
  obtain ⟨ts, h1, h2⟩ := h
  obtain ⟨rs, h3, h4⟩ := h'
  exact ⟨ts ++ rs, by rw [List.map_append]; exact dpa_app h1 h3, by rw [List.length_append]; omega⟩
theorem Tris.nil {H : Hp} : Tris K H [] 0 := ⟨[], .nil, Nat.le_refl _⟩
theorem Tris.cons {H : Hp} {v : V} {vs : List V} {n : Nat} {t : Tri} (d : Dp K H v (dTri t)) (h : Tris K H vs n) : Tris K H (v :: vs) (n + 1) := by
  obtain ⟨ts, h1, h2⟩ := h
  exact ⟨t :: ts, .cons d h1, by rw [List.length_cons]; omega⟩
theorem Tris.cut {H : Hp} {vs : List V} {n : Nat} (h : Tris K H vs n) (lo hi : Option Int) : Tris K H (cutV vs lo hi) n := by
  obtain ⟨ts, h1, h2⟩ := h
  unfold cutV
  refine ⟨(ts.drop (HT.sIx vs.length 0 lo)).take (HT.sIx vs.length vs.length hi - HT.sIx vs.length 0 lo), ?_, by simp; omega⟩
  rw [List.map_take, List.map_drop]
  exact dpa_take _ (dpa_drop _ h1)
theorem dpa_rev {H : Hp} : ∀ {vs : List V} {ds : List PyData}, DpAll K H vs ds → DpAll K H vs.reverse ds.reverse
  | _, _, .nil => .nil
  | _, _, .cons h r => by
    rw [List.reverse_cons, List.reverse_cons]
    exact dpa_app (dpa_rev r) (.cons h .nil)
theorem Tris.rev {H : Hp} {vs : List V} {n : Nat} (h : Tris K H vs n) : Tris K H vs.reverse n := by
  obtain ⟨ts, h1, h2⟩ := h
  exact ⟨ts.reverse, by rw [List.map_reverse]; exact dpa_rev h1, by simpa using h2⟩
theorem Tris.at {H : Hp} {vs : List V} {n i : Nat} {v : V} (h : Tris K H vs n) (e : vs[i]? = some v) : ∃ t, Dp K H v (dTri t) := by
  obtain ⟨ts, h1, h2⟩ := h
  obtain ⟨d, hd, dv⟩ := dpa_get h1 e
  rw [List.getElem?_map] at hd
  obtain ⟨t, _, rfl⟩ := Option.map_eq_some_iff.mp hd
  exact ⟨t, dv⟩
theorem tri_hid {H : Hp} {l : Addr} {ys : List V} (hl : H l = some (.lst ys)) {v : V} {t : Tri} (d : Dp K H v (dTri t)) : Dp K (hid [l] H) v (dTri t) := by
  obtain ⟨a, rfl, hs⟩ := dp_tri d
  refine .tup ?_ (dpa_of_ints [t.1, t.2.1, t.2.2])
  rcases hs with (h | ⟨o, h⟩) | h
  · exact .inl (.inl (by rw [hid_ne (fun z => by rw [List.mem_singleton.mp z, hl] at h; cases h)]; exact h))
  · exact .inl (.inr ⟨o, by rw [hid_ne (fun z => by rw [List.mem_singleton.mp z, hl] at h; cases h)]; exact h⟩)
  · exact .inr h
theorem Tris.hid {H : Hp} {l : Addr} {ys vs : List V} {n : Nat} (hl : H l = some (.lst ys)) (h : Tris K H vs n) : Tris K (hid [l] H) vs n := by
  obtain ⟨ts, h1, h2⟩ := h
  refine ⟨ts, ?_, h2⟩
  clear h2
  induction ts generalizing vs with
  | nil => cases h1; exact .nil
  | cons t r ih => cases h1 with | cons a b => exact .cons (tri_hid hl a) (ih b)
/-- a new line -/
theorem kTri {a b c : Int} {H : Hp} {Q : VK} {pu : Addr} {k : Int} (L : Le H pu k) (h : ∀ p H', Le H' pu k → Same H H' → Dp K (Cm.hid [pu] H') (.ref p) (dTri (a, b, c)) → Q (.ref p) H') : newT [.int a, .int b, .int c] H Q :=
  kTp L (by simp) fun p H' np s e => h p H' (L.same s) s (.tup (stp e) (dpa_of_ints [a, b, c]))
theorem kLl {xs : List V} {H : Hp} {Q : VK} {pu : Addr} {k : Int} (L : Le H pu k) (hn : xs.length ≤ 100000) (h : ∀ p H', Le H' pu k → H p = none → Same H H' → Cm.hid [pu] H' p = some (.lst xs) → Q (.ref p) H') : newL xs H Q :=
  kLp L hn fun p H' np s e => h p H' (L.same s) np s e
theorem k_slP {H : Hp} {Q : VK} {pu a : Addr} {k : Int} {xs : List V} {lo hi : Option Int} (L : Le H pu k) (hs : Cm.hid [pu] H a = some (.lst xs)) (h : ∀ p H', Le H' pu k → Same H H' → Cm.hid [pu] H' p = some (.lst (cutV xs lo hi)) → Q (.ref p) H') : rSlL K (.ref a) lo hi H Q :=
  k_slL (sl (hid_same _ _ _ _ hs)) fun p H' np s e => h p H' (L.same s) s (L.at np e)
theorem k_catP {H : Hp} {Q : VK} {pu p q : Addr} {k : Int} {xs ys : List V} (L : Le H pu k) (hp : Cm.hid [pu] H p = some (.lst xs)) (hq : Cm.hid [pu] H q = some (.lst ys)) (hz : xs.length + ys.length ≤ 100000) (h : ∀ l H', Le H' pu k → H l = none → Same H H' → Cm.hid [pu] H' l = some (.lst (xs ++ ys)) → Q (.ref l) H') : rCat (.ref p) (.ref q) H Q :=
  k_catN (hid_same _ _ _ _ hp) (hid_same _ _ _ _ hq) hz fun l H' nl s e => h l H' (L.same s) nl s (L.at nl e)
def newRv (K : PySem.W.Frag) (x : V) (H : Hp) (Q : VK) : Prop := ∃ a xs, x = .ref a ∧ SqL K H a xs ∧ ∀ p, H p = none → Q (.ref p) (upd H p (.lst xs.reverse))
instance {te : TE} {σ : L2.St} {H : Hp} {Q : VK} : Stp (tRevL K te σ H Q) (te σ H fun x H1 => newRv K x H1 Q) := ⟨id⟩
theorem k_revP {H : Hp} {Q : VK} {pu a : Addr} {k : Int} {xs : List V} (L : Le H pu k) (hs : Cm.hid [pu] H a = some (.lst xs)) (h : ∀ p H', Le H' pu k → Same H H' → Cm.hid [pu] H' p = some (.lst xs.reverse) → Q (.ref p) H') : newRv K (.ref a) H Q :=
  ⟨a, xs, rfl, sl (hid_same _ _ _ _ hs), fun p np => h p _ (L.same (same_new np)) (same_new np) (L.at np upd_same)⟩
def pr_law_bent (K : PySem.W.Frag) (v0 v1 v2 : V) (H : Hp) (Q : VK) (_ : XK) : Prop := ∃ (pu b : Addr) (k m : Int) (us : List V), v0 = .ref pu ∧ v1 = .ref b ∧ v2 = .int m ∧ 2 ≤ m ∧ m ≤ 60 ∧ Le H pu k ∧ k < 800000 ∧ hid [pu] H b = some (.lst us) ∧ Tris K (hid [pu] H) us 40 ∧
  ∀ p vs k' H', Le H' pu k' → k' ≤ k + 10 → Same (hid [pu] H) (hid [pu] H') → hid [pu] H' p = some (.lst vs) → Tris K (hid [pu] H') vs 200 → Q (.ref p) H'
def t_law_bent (K : PySem.W.Frag) : TS :=
  (tSeq (tIfS (tTest (tOp rEq (tCB (rLen K) (tCons (tVar 1) tNil)) (tC (.int 0)))) (tRet (tOp (rIxL K) (tLst (tCons (tLst tNil) (tCons (tLst (tCons (tTup (tCons (tC (.int 1)) (tCons (tC (.int 0)) (tCons (tC (.int 0)) tNil)))) tNil)) tNil))) (tCall (sp_law_draw K) [] E0 (tCons (tVar 0) (tCons (tC (.int 2)) tNil))))) tNext)
    (tSeq (tAsg (tCall (sp_law_draw K) [] E0 (tCons (tVar 0) (tCons (tCB (rLen K) (tCons (tVar 1) tNil)) tNil))) (gName 3))
    (tSeq (tAsg (tOp (rIxL K) (tVar 1) (tVar 3)) (gTup K 3 (gCons (gName 4) (gCons (gName 5) (gCons (gName 6) gNil)))))
    (tSeq (tAsg (tOp (rIxL K) (tVar 1) (tCall (sp_law_draw K) [] E0 (tCons (tVar 0) (tCons (tCB (rLen K) (tCons (tVar 1) tNil)) tNil)))) (gName 7))
    (tSeq (tAsg (tCall (sp_law_draw K) [] E0 (tCons (tVar 0) (tCons (tC (.int 21)) tNil))) (gName 8))
    (tSeq (tIfS (tTest (tOp xLt (tVar 8) (tC (.int 4)))) (tRet (tOp (rIxL K) (tLst (tCons (tVar 1) (tCons (tOp rCat (tSl (rSlL K) (tVar 1) tNoPart (tPart (tVar 3))) (tSl (rSlL K) (tVar 1) (tPart (tOp xAdd (tVar 3) (tC (.int 1)))) tNoPart)) (tCons (tOp rCat (tOp rCat (tSl (rSlL K) (tVar 1) tNoPart (tPart (tVar 3))) (tSl (rSlL K) (tVar 1) (tPart (tVar 3)) (tPart (tOp xAdd (tVar 3) (tC (.int 1)))))) (tSl (rSlL K) (tVar 1) (tPart (tVar 3)) tNoPart)) (tCons (tOp rCat (tVar 1) (tLst (tCons (tVar 7) tNil))) tNil))))) (tVar 8))) tNext)
    (tSeq (tIfS (tTest (tOp rEq (tVar 8) (tC (.int 4)))) (tRet (tOp rCat (tOp rCat (tSl (rSlL K) (tVar 1) tNoPart (tPart (tVar 3))) (tRevL K (tSl (rSlL K) (tVar 1) (tPart (tVar 3)) (tPart (tOp xAdd (tVar 3) (tC (.int 2))))))) (tSl (rSlL K) (tVar 1) (tPart (tOp xAdd (tVar 3) (tC (.int 2)))) tNoPart))) tNext)
    (tSeq (tAsg (tLst (tCons (tTup (tCons (tOp xAdd (tVar 4) (tC (.int 1))) (tCons (tVar 5) (tCons (tVar 6) tNil)))) (tCons (tTup (tCons (tOp xSub (tVar 4) (tC (.int 1))) (tCons (tVar 5) (tCons (tVar 6) tNil)))) (tCons (tTup (tCons (tC (.int 0)) (tCons (tVar 5) (tCons (tVar 6) tNil)))) (tCons (tTup (tCons (tUn xNeg (tC (.int 1))) (tCons (tVar 5) (tCons (tVar 6) tNil)))) (tCons (tTup (tCons (tVar 4) (tCons (tOp xAdd (tVar 5) (tC (.int 1))) (tCons (tVar 6) tNil)))) tNil)))))) (gName 9))
    (tSeq (tAsg (tOp rCat (tVar 9) (tLst (tCons (tTup (tCons (tVar 4) (tCons (tOp xSub (tVar 5) (tC (.int 1))) (tCons (tVar 6) tNil)))) (tCons (tTup (tCons (tVar 4) (tCons (tOp (rIxT K) (tVar 7) (tC (.int 1))) (tCons (tVar 6) tNil)))) (tCons (tTup (tCons (tVar 4) (tCons (tUn xNeg (tC (.int 1))) (tCons (tVar 6) tNil)))) (tCons (tTup (tCons (tVar 4) (tCons (tVar 2) (tCons (tVar 6) tNil)))) tNil)))))) (gName 9))
    (tSeq (tAsg (tOp rCat (tVar 9) (tLst (tCons (tTup (tCons (tVar 4) (tCons (tVar 5) (tCons (tOp xAdd (tVar 6) (tC (.int 1))) tNil)))) (tCons (tTup (tCons (tVar 4) (tCons (tVar 5) (tCons (tOp xSub (tVar 6) (tC (.int 1))) tNil)))) (tCons (tTup (tCons (tVar 4) (tCons (tVar 5) (tCons (tOp (rIxT K) (tVar 7) (tC (.int 2))) tNil)))) tNil))))) (gName 9))
    (tSeq (tDrop (tBM K "list" rAppend (tVar 9) (tCons (tTup (tCons (tOp xAdd (tC (.int 1)) (tCall (sp_law_draw K) [] E0 (tCons (tVar 0) (tCons (tC (.int 4)) tNil)))) (tCons (tCall (sp_law_draw K) [] E0 (tCons (tVar 0) (tCons (tVar 2) tNil))) (tCons (tCall (sp_law_draw K) [] E0 (tCons (tVar 0) (tCons (tC (.int 8)) tNil))) tNil)))) tNil)))
    (tSeq (tAsg (tOp xPow (tC (.int 10)) (tC (.int 29))) (gName 10))
    (tSeq (tAsg (tOp rCat (tVar 9) (tLst (tCons (tTup (tCons (tOp xAdd (tVar 4) (tVar 10)) (tCons (tVar 5) (tCons (tVar 6) tNil)))) (tCons (tTup (tCons (tVar 4) (tCons (tOp xAdd (tVar 5) (tVar 10)) (tCons (tVar 6) tNil)))) (tCons (tTup (tCons (tVar 4) (tCons (tVar 5) (tCons (tOp xAdd (tVar 6) (tVar 10)) tNil)))) tNil))))) (gName 9))
    (tRet (tOp rCat (tOp rCat (tSl (rSlL K) (tVar 1) tNoPart (tPart (tVar 3))) (tLst (tCons (tOp (rIxL K) (tVar 9) (tOp xSub (tVar 8) (tC (.int 5)))) tNil))) (tSl (rSlL K) (tVar 1) (tPart (tOp xAdd (tVar 3) (tC (.int 1)))) tNoPart))))))))))))))))
theorem pure_law_bent {v0 v1 v2 : V} {H : Hp} {Q : VK} {E : XK} (h : pr_law_bent K v0 v1 v2 H Q E) : t_law_bent K ⟨fun _ H' => Q .non H', Q, fun _ _ => False, fun _ _ => False⟩ [some v0, some v1, some v2, none, none, none, none, none, none, none, none] H := by
  obtain ⟨pu, b, k, m, us, rfl, rfl, rfl, m0, m1, L, hk, hb, tu, q⟩ := h
  have lu := tu.len
  have hb0 := hid_same _ _ _ _ hb
  unfold t_law_bent
  wtm_at "s"
  refine k_it (fun c0 => ?_) (fun c0 => ?_)
  · wtm_at "s"
    refine kLl L (by simp) (fun p1 H1 L1 np1 s1 e1 => ?_)
    wtm_at "s"
    refine kTri (K := K) L1 (fun p2 H2 L2 s2 d2 => ?_)
    wtm_at "s"
    refine kLl L2 (by simp) (fun p3 H3 L3 np3 s3 e3 => ?_)
    wtm_at "s"
    refine kLl L3 (by simp) (fun p4 H4 L4 np4 s4 e4 => ?_)
    wtm_at "s"
    refine ⟨_, _, rfl, pu, k, 2, rfl, rfl, L4, by omega, by decide, by decide, fun r H5 r0 r1 L5 S5 => ?_⟩
    have e4' := S5 _ _ e4
    have hc : r = 0 ∨ r = 1 := by omega
    rcases hc with rfl | rfl
    · refine k_ixL (sl (hid_same _ _ _ _ e4')) (v := .ref p1) rfl ?_
      exact q p1 [] _ H5 L5 (by omega) (by wtm_at "sm") (by wtm_at "at") (Tris.nil.mono (by decide))
    · refine k_ixL (sl (hid_same _ _ _ _ e4')) (v := .ref p3) rfl ?_
      exact q p3 _ _ H5 L5 (by omega) (by wtm_at "sm") (by wtm_at "at") ((Tris.cons (by wtm_at "dp") Tris.nil).mono (by decide))
  wtm_at "s"
  refine ⟨_, _, rfl, pu, _, _, rfl, rfl, L, by omega, by omega, by omega, fun at' H1 at0 at1 L1 S1 => ?_⟩
  obtain ⟨j, rfl⟩ := Int.eq_ofNat_of_zero_le at0
  have hj : j < us.length := by omega
  obtain ⟨u, hu⟩ : ∃ u, us[j]? = some u := ⟨us[j], List.getElem?_eq_getElem hj⟩
  obtain ⟨t, dt⟩ := tu.at hu
  obtain ⟨u, rfl, hut⟩ := dp_tri dt
  have hut1 : SqT K H1 u [.int t.1, .int t.2.1, .int t.2.2] := same_seqT (S1.trans (hid_same _ _)) hut
  have hb1 := S1 _ _ hb
  have hb1' := hid_same _ _ _ _ hb1
  wtm_at "s"
  refine k_ixL (sl hb1') (atI_nat hu) ?_
  wtm_at "s"
  refine ⟨_, _, rfl, pu, _, _, rfl, rfl, L1, by omega, by omega, by omega, fun ot H2 ot0 ot1 L2 S2 => ?_⟩
  obtain ⟨o, rfl⟩ := Int.eq_ofNat_of_zero_le ot0
  have ho : o < us.length := by omega
  obtain ⟨x, hx⟩ : ∃ x, us[o]? = some x := ⟨us[o], List.getElem?_eq_getElem ho⟩
  obtain ⟨y, dy⟩ := tu.at hx
  have dy2 := dp_same (S1.trans S2) dy
  obtain ⟨x, rfl, hxt⟩ := dp_tri dy
  refine k_ixL (sl (hid_same _ _ _ _ (S2 _ _ hb1))) (atI_nat hx) ?_
  wtm_at "s"
  refine ⟨_, _, rfl, pu, _, 21, rfl, rfl, L2, by omega, by decide, by decide, fun ch H3 ch0 ch1 L3 S3 => ?_⟩
  have S03 : Same (hid [pu] H) (hid [pu] H3) := S1.trans (S2.trans S3)
  have hb3 := S03 _ _ hb
  have tu3 := tu.same S03
  have dy3 : Dp K (hid [pu] H3) (.ref x) (dTri y) := dp_same S3 dy2
  have hxt3 : SqT K (hid [pu] H3) x [.int y.1, .int y.2.1, .int y.2.2] := same_seqT S03 hxt
  clear hut hut1 hb1 hb1' S1 S2 S3 L1 L2 dt dy hxt dy2 hb0 L
  wtm_at "s"
  refine k_it (fun c1 => ?_) (fun c1 => ?_)
  · wtm_at "s"
    refine k_slP L3 hb3 (fun p1 H4 L4 s4 e4 => ?_)
    wtm_at "s"
    refine k_slP L4 (by wtm_at "at") (fun p2 H5 L5 s5 e5 => ?_)
    refine k_catP L5 (by wtm_at "at") e5 ?_ (fun p3 H6 L6 np3 s6 e6 => ?_)
    · have := (tu3.cut none (some (j : Int))).len; have := (tu3.cut (some ((j : Int) + 1)) none).len; omega
    wtm_at "s"
    refine k_slP L6 (xs := us) (by wtm_at "at") (fun p4 H7 L7 s7 e7 => ?_)
    wtm_at "s"
    refine k_slP L7 (xs := us) (by wtm_at "at") (fun p5 H8 L8 s8 e8 => ?_)
    refine k_catP L8 (by wtm_at "at") e8 ?_ (fun p6 H9 L9 np6 s9 e9 => ?_)
    · have := (tu3.cut none (some (j : Int))).len; have := (tu3.cut (some (j : Int)) (some ((j : Int) + 1))).len; omega
    wtm_at "s"
    refine k_slP L9 (xs := us) (by wtm_at "at") (fun p7 HA LA sA eA => ?_)
    refine k_catP LA (by wtm_at "at") eA ?_ (fun p8 HB LB np8 sB eB => ?_)
    · have := (tu3.cut none (some (j : Int))).len; have := (tu3.cut (some (j : Int)) (some ((j : Int) + 1))).len; have := (tu3.cut (some (j : Int)) none).len; rw [List.length_append]; omega
    wtm_at "s"
    refine kLl LB (by simp) (fun p9 HC LC np9 sC eC => ?_)
    refine k_catP LC (xs := us) (by wtm_at "at") eC (by simp; omega) (fun p10 HD LD np10 sD eD => ?_)
    wtm_at "s"
    refine kLl LD (by simp) (fun p11 HE LE np11 sE eE => ?_)
    wtm_at "s"
    have S : Same (hid [pu] H3) (hid [pu] HE) := by wtm_at "sm"
    have tE := tu3.same S
    have hch : ch = 0 ∨ ch = 1 ∨ ch = 2 ∨ ch = 3 := by omega
    rcases hch with rfl | rfl | rfl | rfl
    · refine k_ixL (sl (hid_same _ _ _ _ eE)) (v := .ref b) rfl ?_
      exact q b us _ HE LE (by omega) (S03.trans S) (S _ _ hb3) (tE.mono (by decide))
    · refine k_ixL (sl (hid_same _ _ _ _ eE)) (v := .ref p3) rfl ?_
      exact q p3 _ _ HE LE (by omega) (S03.trans S) (by wtm_at "at") (((tE.cut _ _).app (tE.cut _ _)).mono (by decide))
    · refine k_ixL (sl (hid_same _ _ _ _ eE)) (v := .ref p8) rfl ?_
      exact q p8 _ _ HE LE (by omega) (S03.trans S) (by wtm_at "at") ((((tE.cut _ _).app (tE.cut _ _)).app (tE.cut _ _)).mono (by decide))
    · refine k_ixL (sl (hid_same _ _ _ _ eE)) (v := .ref p10) rfl ?_
      exact q p10 _ _ HE LE (by omega) (S03.trans S) (by wtm_at "at") ((tE.app (Tris.cons (dp_same S dy3) Tris.nil)).mono (by decide))
  wtm_at "s"
  refine k_it (fun c2 => ?_) (fun c2 => ?_)
  · wtm_at "s"
    refine k_slP L3 hb3 (fun p1 H4 L4 s4 e4 => ?_)
    wtm_at "s"
    refine k_slP L4 (xs := us) (by wtm_at "at") (fun p2 H5 L5 s5 e5 => ?_)
    refine k_revP L5 e5 (fun p3 H6 L6 s6 e6 => ?_)
    refine k_catP L6 (by wtm_at "at") e6 ?_ (fun p4 H7 L7 np4 s7 e7 => ?_)
    · have := (tu3.cut none (some (j : Int))).len; have := (tu3.cut (some (j : Int)) (some ((j : Int) + 2))).len; rw [List.length_reverse]; omega
    wtm_at "s"
    refine k_slP L7 (xs := us) (by wtm_at "at") (fun p5 H8 L8 s8 e8 => ?_)
    refine k_catP L8 (by wtm_at "at") e8 ?_ (fun p6 H9 L9 np6 s9 e9 => ?_)
    · have := (tu3.cut none (some (j : Int))).len; have := (tu3.cut (some (j : Int)) (some ((j : Int) + 2))).len; have := (tu3.cut (some ((j : Int) + 2)) none).len; rw [List.length_append, List.length_reverse]; omega
    have S : Same (hid [pu] H3) (hid [pu] H9) := by wtm_at "sm"
    have tE := tu3.same S
    exact q p6 _ _ H9 L9 (by omega) (S03.trans S) e9 ((((tE.cut _ _).app (tE.cut _ _).rev).app (tE.cut _ _)).mono (by decide))
  wtm_at "s"
  refine kTri (K := K) L3 (fun t1 H4 L4 s4 d1 => ?_)
  wtm_at "s"
  refine kTri (K := K) L4 (fun t2 H5 L5 s5 d2 => ?_)
  wtm_at "s"
  refine kTri (K := K) L5 (fun t3 H6 L6 s6 d3 => ?_)
  wtm_at "s"
  refine kTri (K := K) L6 (fun t4 H7 L7 s7 d4 => ?_)
  wtm_at "s"
  refine kTri (K := K) L7 (fun t5 H8 L8 s8 d5 => ?_)
  wtm_at "s"
  refine kLl L8 (by simp) (fun l1 H9 L9 nl1 s9 e9 => ?_)
  have T9 : Tris K (hid [pu] H9) [.ref t1, .ref t2, .ref t3, .ref t4, .ref t5] 5 := .cons (by wtm_at "dp") (.cons (by wtm_at "dp") (.cons (by wtm_at "dp") (.cons (by wtm_at "dp") (.cons (by wtm_at "dp") .nil))))
  have S39 : Same (hid [pu] H3) (hid [pu] H9) := by wtm_at "sm"
  have hx9 := same_seqT (S39.trans (hid_same _ _)) hxt3
  clear d1 d2 d3 d4 d5 s4 s5 s6 s7 s8 s9 L3 L4 L5 L6 L7 L8
  have z1 : [V.ref t1, .ref t2, .ref t3, .ref t4, .ref t5].length = 5 := rfl
  generalize [V.ref t1, .ref t2, .ref t3, .ref t4, .ref t5] = ls1 at T9 e9 z1
  wtm_at "s"
  refine kTri (K := K) L9 (fun t1 H4 L4 s4 d1 => ?_)
  have hx4 := same_seqT s4 hx9
  wtm_at "s"
  refine kTri (K := K) L4 (fun t2 H5 L5 s5 d2 => ?_)
  wtm_at "s"
  refine kTri (K := K) L5 (fun t3 H6 L6 s6 d3 => ?_)
  wtm_at "s"
  refine kTri (K := K) L6 (fun t4 H7 L7 s7 d4 => ?_)
  wtm_at "s"
  refine kLl L7 (by simp) (fun l2 H8 L8 nl2 s8 e8 => ?_)
  refine k_catP L8 (by wtm_at "at") e8 (by have := T9.len; simp; omega) (fun l3 HA LA nl3 sA eA => ?_)
  have SA : Same (hid [pu] H9) (hid [pu] HA) := by wtm_at "sm"
  have TA : Tris K (hid [pu] HA) (ls1 ++ [.ref t1, .ref t2, .ref t3, .ref t4]) 9 := (T9.same SA).app (.cons (by wtm_at "dp") (.cons (by wtm_at "dp") (.cons (by wtm_at "dp") (.cons (by wtm_at "dp") .nil))))
  have S3A := S39.trans SA
  have hxA := same_seqT (SA.trans (hid_same _ _)) (same_seqT S39 hxt3)
  clear d1 d2 d3 d4 s4 s5 s6 s7 s8 sA SA S39 T9 e9 e8 hx9 hx4 L4 L5 L6 L7 L8 L9 nl1 nl2
  have z2 : (ls1 ++ [V.ref t1, .ref t2, .ref t3, .ref t4]).length = 9 := by rw [List.length_append, z1]; rfl
  generalize ls1 ++ [V.ref t1, .ref t2, .ref t3, .ref t4] = ls2 at TA eA z2
  wtm_at "s"
  refine kTri (K := K) LA (fun t1 H4 L4 s4 d1 => ?_)
  wtm_at "s"
  refine kTri (K := K) L4 (fun t2 H5 L5 s5 d2 => ?_)
  have hx5 := same_seqT (s4.trans s5) hxA
  wtm_at "s"
  refine kTri (K := K) L5 (fun t3 H6 L6 s6 d3 => ?_)
  wtm_at "s"
  refine kLl L6 (by simp) (fun l4 H7 L7 nl4 s7 e7 => ?_)
  refine k_catP L7 (by wtm_at "at") e7 (by have := TA.len; simp; omega) (fun l5 HB LB nl5 sB eB => ?_)
  have SB : Same (hid [pu] HA) (hid [pu] HB) := by wtm_at "sm"
  have TB : Tris K (hid [pu] HB) (ls2 ++ [.ref t1, .ref t2, .ref t3]) 12 := (TA.same SB).app (.cons (by wtm_at "dp") (.cons (by wtm_at "dp") (.cons (by wtm_at "dp") .nil)))
  have S3B := S3A.trans SB
  have nl5' : hid [pu] H3 l5 = none := by
    rw [hid_ne (L7.fresh nl5)]
    have h7 : hid [pu] H7 l5 = none := by rw [hid_ne (L7.fresh nl5)]; exact nl5
    have := (S3A.trans (show Same (hid [pu] HA) (hid [pu] H7) by wtm_at "sm")).free h7
    rwa [hid_ne (L7.fresh nl5)] at this
  have pl5 : l5 ∉ [pu] := L7.fresh nl5
  clear d1 d2 d3 s4 s5 s6 s7 sB SB S3A TA eA e7 hxA hx5 L4 L5 L6 L7 LA nl4 nl5
  have z3 : (ls2 ++ [V.ref t1, .ref t2, .ref t3]).length = 12 := by rw [List.length_append, z2]; rfl
  generalize ls2 ++ [V.ref t1, .ref t2, .ref t3] = ls3 at TB eB z3
  wtm_at "s"
  refine k_tyL (sl (hid_same _ _ _ _ eB)) ?_
  wtm_at "s"
  refine ⟨_, _, rfl, pu, _, 4, rfl, rfl, LB, by omega, by decide, by decide, fun r1 HC r10 r11 LC SC => ?_⟩
  wtm_at "s"
  refine ⟨_, _, rfl, pu, _, m, rfl, rfl, LC, by omega, by omega, by omega, fun r2 HD r20 r21 LD SD => ?_⟩
  wtm_at "s"
  refine ⟨_, _, rfl, pu, _, 8, rfl, rfl, LD, by omega, by decide, by decide, fun r3 HE r30 r31 LE SE => ?_⟩
  wtm_at "s"
  refine kTri (K := K) LE (fun t1 HF LF sF d1 => ?_)
  have SBF : Same (hid [pu] HB) (hid [pu] HF) := SC.trans (SD.trans (SE.trans (hid_mono sF)))
  have eF := SBF _ _ eB
  wtm_at "s"
  refine k_append (hid_same _ _ _ _ eF) (by have := TB.len; omega) ?_
  have TF : Tris K (hid [pu] HF) (ls3 ++ [.ref t1]) 13 := (TB.same SBF).app (.cons d1 .nil)
  have S3F := S3B.trans SBF
  have SG : Same (hid [pu] H3) (hid [pu] (upd HF l5 (.lst (ls3 ++ [.ref t1])))) := same_hid_mut S3F nl5'
  have TG : Tris K (hid [pu] (upd HF l5 (.lst (ls3 ++ [.ref t1])))) (ls3 ++ [.ref t1]) 13 := by
    refine Tris.same ?_ (hid_same [l5] _)
    rw [hid_comm, hid_upd (by simp), ← hid_comm]
    exact TF.hid eF
  have LG : Le (upd HF l5 (.lst (ls3 ++ [.ref t1]))) pu (k + 1 + 1 + 1 + 1 + 1 + 1) := LF.upd pl5
  have eG : hid [pu] (upd HF l5 (.lst (ls3 ++ [.ref t1]))) l5 = some (.lst (ls3 ++ [.ref t1])) := by rw [hid_ne pl5, upd_same]
  generalize upd HF l5 (.lst (ls3 ++ [.ref t1])) = HG at SG TG LG eG ⊢
  have l13 : (ls3 ++ [V.ref t1]).length = 13 := by rw [List.length_append, z3]; rfl
  clear SC SD SE sF SBF eF TF S3F TB eB S3B LB LC LD LE LF d1 nl5'
  generalize ls3 ++ [V.ref t1] = ls4 at TG eG l13
  wtm_at "s"
  refine kTri (K := K) LG (fun t1 H4 L4 s4 d1 => ?_)
  wtm_at "s"
  refine kTri (K := K) L4 (fun t2 H5 L5 s5 d2 => ?_)
  wtm_at "s"
  refine kTri (K := K) L5 (fun t3 H6 L6 s6 d3 => ?_)
  wtm_at "s"
  refine kLl L6 (by simp) (fun l6 H7 L7 nl6 s7 e7 => ?_)
  refine k_catP L7 (by wtm_at "at") e7 (by simp; omega) (fun l7 H8 L8 nl7 s8 e8 => ?_)
  have S8 : Same (hid [pu] HG) (hid [pu] H8) := by wtm_at "sm"
  have T8 : Tris K (hid [pu] H8) (ls4 ++ [.ref t1, .ref t2, .ref t3]) 16 := (TG.same S8).app (.cons (by wtm_at "dp") (.cons (by wtm_at "dp") (.cons (by wtm_at "dp") .nil)))
  have S38 := SG.trans S8
  have l16 : (ls4 ++ [V.ref t1, .ref t2, .ref t3]).length = 16 := by rw [List.length_append, l13]; rfl
  clear d1 d2 d3 s4 s5 s6 s7 s8 S8 SG TG eG e7 L4 L5 L6 L7 LG nl6 nl7
  generalize ls4 ++ [V.ref t1, .ref t2, .ref t3] = ls5 at T8 e8 l16
  obtain ⟨i, hi⟩ : ∃ i : Nat, ch - 5 = i := ⟨(ch - 5).toNat, by omega⟩
  obtain ⟨v, hv⟩ : ∃ v, ls5[i]? = some v := ⟨ls5[i]'(by omega), List.getElem?_eq_getElem (by omega)⟩
  obtain ⟨t0, dv⟩ := T8.at hv
  wtm_at "s"
  refine k_slP L8 (xs := us) (S38 _ _ hb3) (fun p1 H9 L9 s9 e9 => ?_)
  wtm_at "s"
  rw [hi]
  refine k_ixL (sl (hid_same _ _ _ _ (hid_mono s9 _ _ e8))) (atI_nat hv) ?_
  wtm_at "s"
  refine kLl L9 (by simp) (fun p2 HA LA np2 sA eA => ?_)
  refine k_catP LA (by wtm_at "at") eA (by have := (tu3.cut none (some (j : Int))).len; simp; omega) (fun p3 HB LB np3 sB eB => ?_)
  wtm_at "s"
  have S8B : Same (hid [pu] H8) (hid [pu] HB) := by wtm_at "sm"
  refine k_slP LB (xs := us) ((S38.trans S8B) _ _ hb3) (fun p4 HC LC sC eC => ?_)
  refine k_catP LC (by wtm_at "at") eC (by have := (tu3.cut none (some (j : Int))).len; have := (tu3.cut (some ((j : Int) + 1)) none).len; simp; omega) (fun p5 HD LD np5 sD eD => ?_)
  have S8D : Same (hid [pu] H8) (hid [pu] HD) := S8B.trans ((hid_mono sC).trans (hid_mono sD))
  have S3D := S38.trans S8D
  have tE := tu3.same S3D
  exact q p5 _ _ HD LD (by omega) (S03.trans S3D) eD ((((tE.cut _ _).app (.cons (dp_same S8D dv) .nil)).app (tE.cut _ _)).mono (by decide))
abbrev sp_law_bent (K : PySem.W.Frag) : Sp := fun vs H Q E => ∃ v0 v1 v2, vs = [v0, v1, v2] ∧ pr_law_bent K v0 v1 v2 H Q E
theorem ok_law_bent (T : Txt K mg A) : FnOk P w K mg base CX0 3 A.a_law_bent A.d_law_bent ["_law_left_here", "_law_lines", "_law_many"] (sp_law_bent K) := by
  refine T.F_law_bent.ok sc_law_bent (fun vs H Q E h => by obtain ⟨v0, v1, v2, rfl, _⟩ := h; rfl) (fun cdv A0 outer s H vs Q E hr h => ?_)
  obtain ⟨v0, v1, v2, rfl, h⟩ := h
  exact ⟨t_law_bent K, (pss_cons (ps_if (pt_cmpR op_eq (pe_callB q_len (by rfl) T.z_len (by decide +kernel) (pa_cons (pv 1) pa_nil)) pe_int (nomark _)) (pss_one (ps_ret (pe_ix ix_list (pe_lst (pa_cons (pe_lst pa_nil) (pa_cons (pe_lst (pa_cons (pe_tup (pa_cons pe_int (pa_cons pe_int (pa_cons pe_int pa_nil)))) pa_nil)) pa_nil))) (pe_call (ok_law_draw T) (hr.mono (by decide)) (by rfl) T.g_law_draw T.F_law_draw.kp T.b_law_draw .nil pass0 (pa_cons (pv 0) (pa_cons pe_int pa_nil))) (fun _ _ => rfl)))) pss_nil)
      (pss_cons (ps_set (i := 3) sc_law_bent.nd rfl (Or.inl rfl) (pe_call (ok_law_draw T) (hr.mono (by decide)) (by rfl) T.g_law_draw T.F_law_draw.kp T.b_law_draw .nil pass0 (pa_cons (pv 0) (pa_cons (pe_callB q_len (by rfl) T.z_len (by decide +kernel) (pa_cons (pv 1) pa_nil)) pa_nil))))
      (pss_cons (ps_asg (pe_ix ix_list (pv 1) (pv 3) (fun _ _ => rfl)) (pg_tup (by rfl) (pgs_cons (pg_name (i := 4) sc_law_bent.nd rfl (Or.inl rfl)) (pgs_cons (pg_name (i := 5) sc_law_bent.nd rfl (Or.inl rfl)) (pgs_cons (pg_name (i := 6) sc_law_bent.nd rfl (Or.inl rfl)) pgs_nil)))))
      (pss_cons (ps_set (i := 7) sc_law_bent.nd rfl (Or.inl rfl) (pe_ix ix_list (pv 1) (pe_call (ok_law_draw T) (hr.mono (by decide)) (by rfl) T.g_law_draw T.F_law_draw.kp T.b_law_draw .nil pass0 (pa_cons (pv 0) (pa_cons (pe_callB q_len (by rfl) T.z_len (by decide +kernel) (pa_cons (pv 1) pa_nil)) pa_nil))) (fun _ _ => rfl)))
      (pss_cons (ps_set (i := 8) sc_law_bent.nd rfl (Or.inl rfl) (pe_call (ok_law_draw T) (hr.mono (by decide)) (by rfl) T.g_law_draw T.F_law_draw.kp T.b_law_draw .nil pass0 (pa_cons (pv 0) (pa_cons pe_int pa_nil))))
      (pss_cons (ps_if (pt_cmpR op_lt (pv 8) pe_int (nomark _)) (pss_one (ps_ret (pe_ix ix_list (pe_lst (pa_cons (pv 1) (pa_cons (pe_op op_cat (pe_slice sl_list (pv 1) po_none (po_some (pv 3))) (pe_slice sl_list (pv 1) (po_some (pe_op op_add (pv 3) pe_int)) po_none)) (pa_cons (pe_op op_cat (pe_op op_cat (pe_slice sl_list (pv 1) po_none (po_some (pv 3))) (pe_slice sl_list (pv 1) (po_some (pv 3)) (po_some (pe_op op_add (pv 3) pe_int)))) (pe_slice sl_list (pv 1) (po_some (pv 3)) po_none)) (pa_cons (pe_op op_cat (pv 1) (pe_lst (pa_cons (pv 7) pa_nil))) pa_nil))))) (pv 8) (fun _ _ => rfl)))) pss_nil)
      (pss_cons (ps_if (pt_cmpR op_eq (pv 8) pe_int (nomark _)) (pss_one (ps_ret (pe_op op_cat (pe_op op_cat (pe_slice sl_list (pv 1) po_none (po_some (pv 3))) (pe_revL (pe_slice sl_list (pv 1) (po_some (pv 3)) (po_some (pe_op op_add (pv 3) pe_int))))) (pe_slice sl_list (pv 1) (po_some (pe_op op_add (pv 3) pe_int)) po_none)))) pss_nil)
      (pss_cons (ps_set (i := 9) sc_law_bent.nd rfl (Or.inl rfl) (pe_lst (pa_cons (pe_tup (pa_cons (pe_op op_add (pv 4) pe_int) (pa_cons (pv 5) (pa_cons (pv 6) pa_nil)))) (pa_cons (pe_tup (pa_cons (pe_op op_sub (pv 4) pe_int) (pa_cons (pv 5) (pa_cons (pv 6) pa_nil)))) (pa_cons (pe_tup (pa_cons pe_int (pa_cons (pv 5) (pa_cons (pv 6) pa_nil)))) (pa_cons (pe_tup (pa_cons (pe_un un_neg pe_int) (pa_cons (pv 5) (pa_cons (pv 6) pa_nil)))) (pa_cons (pe_tup (pa_cons (pv 4) (pa_cons (pe_op op_add (pv 5) pe_int) (pa_cons (pv 6) pa_nil)))) pa_nil)))))))
      (pss_cons (ps_set (i := 9) sc_law_bent.nd rfl (Or.inl rfl) (pe_op op_cat (pv 9) (pe_lst (pa_cons (pe_tup (pa_cons (pv 4) (pa_cons (pe_op op_sub (pv 5) pe_int) (pa_cons (pv 6) pa_nil)))) (pa_cons (pe_tup (pa_cons (pv 4) (pa_cons (pe_ix ix_tup (pv 7) pe_int (fun _ _ => rfl)) (pa_cons (pv 6) pa_nil)))) (pa_cons (pe_tup (pa_cons (pv 4) (pa_cons (pe_un un_neg pe_int) (pa_cons (pv 6) pa_nil)))) (pa_cons (pe_tup (pa_cons (pv 4) (pa_cons (pv 2) (pa_cons (pv 6) pa_nil)))) pa_nil)))))))
      (pss_cons (ps_set (i := 9) sc_law_bent.nd rfl (Or.inl rfl) (pe_op op_cat (pv 9) (pe_lst (pa_cons (pe_tup (pa_cons (pv 4) (pa_cons (pv 5) (pa_cons (pe_op op_add (pv 6) pe_int) pa_nil)))) (pa_cons (pe_tup (pa_cons (pv 4) (pa_cons (pv 5) (pa_cons (pe_op op_sub (pv 6) pe_int) pa_nil)))) (pa_cons (pe_tup (pa_cons (pv 4) (pa_cons (pv 5) (pa_cons (pe_ix ix_tup (pv 7) pe_int (fun _ _ => rfl)) pa_nil)))) pa_nil))))))
      (pss_cons (ps_expr (pe_bm PySem.F.plainAttrs_list PySem.F.slot_list_append PySem.F.type_list_append mt_append (pv 9) (pa_cons (pe_tup (pa_cons (pe_op op_add pe_int (pe_call (ok_law_draw T) (hr.mono (by decide)) (by rfl) T.g_law_draw T.F_law_draw.kp T.b_law_draw .nil pass0 (pa_cons (pv 0) (pa_cons pe_int pa_nil)))) (pa_cons (pe_call (ok_law_draw T) (hr.mono (by decide)) (by rfl) T.g_law_draw T.F_law_draw.kp T.b_law_draw .nil pass0 (pa_cons (pv 0) (pa_cons (pv 2) pa_nil))) (pa_cons (pe_call (ok_law_draw T) (hr.mono (by decide)) (by rfl) T.g_law_draw T.F_law_draw.kp T.b_law_draw .nil pass0 (pa_cons (pv 0) (pa_cons pe_int pa_nil))) pa_nil)))) pa_nil)))
      (pss_cons (ps_set (i := 10) sc_law_bent.nd rfl (Or.inl rfl) (pe_op op_pow pe_int pe_int))
      (pss_cons (ps_set (i := 9) sc_law_bent.nd rfl (Or.inl rfl) (pe_op op_cat (pv 9) (pe_lst (pa_cons (pe_tup (pa_cons (pe_op op_add (pv 4) (pv 10)) (pa_cons (pv 5) (pa_cons (pv 6) pa_nil)))) (pa_cons (pe_tup (pa_cons (pv 4) (pa_cons (pe_op op_add (pv 5) (pv 10)) (pa_cons (pv 6) pa_nil)))) (pa_cons (pe_tup (pa_cons (pv 4) (pa_cons (pv 5) (pa_cons (pe_op op_add (pv 6) (pv 10)) pa_nil)))) pa_nil))))))
      (pss_one (ps_ret (pe_op op_cat (pe_op op_cat (pe_slice sl_list (pv 1) po_none (po_some (pv 3))) (pe_lst (pa_cons (pe_ix ix_list (pv 9) (pe_op op_sub (pv 8) pe_int) (fun _ _ => rfl)) pa_nil))) (pe_slice sl_list (pv 1) (po_some (pe_op op_add (pv 3) pe_int)) po_none))))))))))))))))), pure_law_bent h⟩


theorem GvAt.there {H : Hp} {g : Gv} {n : Int} {ws : List (Int × Int)} {es : List Ent} {hs os : List Int} (h : GvAt K A H g n ws es hs os) : ∀ x ∈ g.cells, H x ≠ none := by
  intro x hx
  obtain ⟨ys, h6, _⟩ := h.come
  obtain ⟨zs, h7, _⟩ := h.lain
  unfold Gv.cells at hx
  simp only [List.mem_append, List.mem_cons, List.not_mem_nil, or_false] at hx
  rcases hx with rfl | hx | rfl | rfl | rfl | rfl | rfl | rfl | rfl
  · rw [h.up_.up_]; simp
  · obtain ⟨j, hj⟩ := List.mem_iff_getElem?.mp hx
    rw [h.up_.row j x hj]; simp
  · rw [h.own]; simp
  · rw [h.lev]; simp
  · rw [h.given]; simp
  · rw [h7]; simp
  · rw [h6]; simp
  · rw [h.net]; simp
  · rw [h.ins]; simp
theorem GvAt.apart {H : Hp} {T : List Addr} {g : Gv} {n : Int} {ws : List (Int × Int)} {es : List Ent} {hs os : List Int} (h : GvAt K A (hid T H) g n ws es hs os) {x : Addr} (hx : x ∈ T) : x ∉ g.cells := fun z => h.there x z (hid_in hx)
/-- a new Giver -/
theorem k_newGv {E : XK} {v1 : V} {H : Hp} {Q : VK} {n : Int} (TT : List Addr) (hT : ∀ x ∈ TT, H x ≠ none) (dn : Dp K H v1 (Net.line n).d) (ok : (Net.line n).ok) (q : ∀ (g : Gv) H', Same H H' → GvAt K A (hid TT H') g n [] [] [] [] → (∀ x ∈ g.cells, H x = none) → Q (.ref g.a) H') : newI A.c_Giver (sp_Giver_init K A) E [v1] H Q := by
  intro x dx nx ndx ne
  have s1 : Same H (hid [x] (upd (upd H dx (.own x)) x (.ins A.c_Giver dx []))) := by
    rw [hid_upd (by simp)]
    intro b o hb
    rw [hid_ne (fun z => by rw [List.mem_singleton.mp z, nx] at hb; cases hb), upd_ne (fun z => by rw [z, ndx] at hb; cases hb)]
    exact hb
  have fre : ∀ r, upd (upd H dx (.own x)) x (.ins A.c_Giver dx []) r = none → H r = none := fun r h => by
    by_cases c : r = x
    · rw [c, upd_same] at h; cases h
    · rw [upd_ne c] at h
      by_cases d : r = dx
      · rw [d, upd_same] at h; cases h
      · rwa [upd_ne d] at h
  refine ⟨_, _, rfl, x, dx, n, rfl, upd_same, dp_same s1 dn, ok, fun nt cm ln gv lv ow up rs H' S ea ent ecm eln egv elv eow eup lr rows nd fr => ⟨rfl, ?_⟩⟩
  have frC : ∀ y ∈ (up :: (rs ++ [ow, lv, gv, ln, cm, nt, x])), H y = none := fun y hy => by
    by_cases c : y = x
    · rw [c]; exact nx
    · refine fre y (fr y ?_)
      simp only [List.mem_append, List.mem_cons, List.not_mem_nil, or_false] at hy ⊢
      rcases hy with h | h | h | h | h | h | h | h | h
      · exact .inl h
      · exact .inr (.inl h)
      · exact .inr (.inr (.inl h))
      · exact .inr (.inr (.inr (.inl h)))
      · exact .inr (.inr (.inr (.inr (.inl h))))
      · exact .inr (.inr (.inr (.inr (.inr (.inl h)))))
      · exact .inr (.inr (.inr (.inr (.inr (.inr (.inl h))))))
      · exact .inr (.inr (.inr (.inr (.inr (.inr (.inr h))))))
      · exact absurd h c
  have at_ : ∀ y o, y ∈ (up :: (rs ++ [ow, lv, gv, ln, cm, nt, x])) → H' y = some o → hid TT H' y = some o := fun y o hy e => by
    rw [hid_ne (fun z => hT y z (frC y hy))]; exact e
  refine q ⟨x, dx, nt, cm, ln, gv, lv, ow, up, rs⟩ H' ((s1.trans S).trans (hid_same _ _)) ⟨nd, ok.1, ok.2, at_ _ _ (by simp) ea, at_ _ _ (by simp) ent, ⟨[], at_ _ _ (by simp) ecm, .nil⟩, ⟨[], at_ _ _ (by simp) eln, rfl, fun k z e hz => by simp at hz⟩, at_ _ _ (by simp) egv, at_ _ _ (by simp) elv, at_ _ _ (by simp) eow, ⟨⟨dx, _, at_ _ _ (by simp) ea, rfl⟩, at_ _ _ (by simp) eup, lr, fun j r hr => at_ _ _ ?_ (rows j r hr)⟩⟩ frC
  exact List.mem_cons_of_mem _ (List.mem_append_left _ (List.mem_of_getElem? hr))
theorem gv_ok0 (n : Int) : GvOk n [] [] [] [] := ⟨(fun k w i h => by simp at h), rfl, (fun w z => by cases z), rfl, rfl, (fun k e h z => by simp at z), (fun j k e f _ z => by simp at z), (fun k e t z => by simp at z)⟩
theorem same_hid_app {C X : List Addr} {H H' : Hp} (f : ∀ x ∈ X, H x = none) (s : Same H H') : Same (hid C H) (hid (X ++ C) H') := fun b o hb => by
  obtain ⟨h1, h2⟩ := hid_some hb
  rw [hid_ne]
  · exact s _ _ h2
  · intro z
    rcases List.mem_append.mp z with z | z
    · rw [f b z] at h2; cases h2
    · exact h1 z
theorem own_one {es : List Ent} {w : Int × Int} {i : Nat} {t s : Int} (h : OwnOf es w i t) (h' : OwnOf es w i s) : t = s := by
  obtain ⟨a1, a2, a3⟩ := h
  obtain ⟨b1, b2, b3⟩ := h'
  rcases Int.lt_trichotomy t s with c | c | c
  · exact absurd a2 (b3 t a1 c)
  · exact c
  · exact absurd b2 (a3 s b1 c)


/-- the lines that a Giver tells -/
def linesOf (es : List Ent) (hs os : List Int) : List Tri := (List.range es.length).map fun j => ((((es.getD j ((0, 0), 0)).2 : Nat) : Int), os.getD j 0, hs.getD j 0)
theorem lines_len {es : List Ent} {hs os : List Int} (h1 : hs.length = es.length) (h2 : os.length = es.length) : (linesOf es hs os).length = es.length := by unfold linesOf; simp
theorem lines_get {es : List Ent} {hs os : List Int} {j : Nat} (h : j < es.length) : (linesOf es hs os)[j]? = some ((((es.getD j ((0, 0), 0)).2 : Nat) : Int), os.getD j 0, hs.getD j 0) := by
  unfold linesOf
  rw [List.getElem?_map, List.getElem?_range h]; rfl
theorem lines_T {es : List Ent} {hs os : List Int} {j : Nat} (h : j < es.length) : levT (linesOf es hs os) j = (((es.getD j ((0, 0), 0)).2 : Nat) : Int) ∧ tieT (linesOf es hs os) j = os.getD j 0 ∧ hueT (linesOf es hs os) j = hs.getD j 0 := by
  unfold levT tieT hueT
  rw [List.getD_eq_getElem?_getD, lines_get h]
  exact ⟨rfl, rfl, rfl⟩
theorem lines_at {n : Int} {ws : List (Int × Int)} {es : List Ent} {hs os : List Int} (o : GvOk n ws es hs os) (le : es.length = ws.length) {j : Nat} (hj : j < ws.length) : (es.map fun e => ((e.2 : Nat) : Int))[j]? = some (levT (linesOf es hs os) j) ∧ os[j]? = some (tieT (linesOf es hs os) j) ∧ hs[j]? = some (hueT (linesOf es hs os) j) := by
  have h1 := o.lh
  have h2 := o.lo
  obtain ⟨a, b, c⟩ := lines_T (es := es) (hs := hs) (os := os) (show j < es.length by omega)
  rw [a, b, c]
  refine ⟨?_, ?_, ?_⟩
  · rw [List.getElem?_map, List.getD_eq_getElem?_getD, List.getElem?_eq_getElem (show j < es.length by omega)]; rfl
  · rw [List.getD_eq_getElem?_getD, List.getElem?_eq_getElem (show j < os.length by omega)]; rfl
  · rw [List.getD_eq_getElem?_getD, List.getElem?_eq_getElem (show j < hs.length by omega)]; rfl
theorem lines_dp {H : Hp} {pu : Addr} {es : List Ent} {hs os : List Int} {rs : List Addr} (hl : es.length = rs.length) (h1 : hs.length = es.length) (h2 : os.length = es.length) (rows : ∀ (j : Nat) r, rs[j]? = some r → H r = some (.tup [.int (levT (linesOf es hs os) j), .int (tieT (linesOf es hs os) j), .int (hueT (linesOf es hs os) j)])) (np : ∀ r ∈ rs, r ∉ [pu]) :
    DpAll K (hid [pu] H) (rs.map V.ref) ((linesOf es hs os).map dTri) := by
  have ll := lines_len h1 h2
  generalize linesOf es hs os = xs at rows ll
  rw [hl] at ll
  clear hl h1 h2
  have key : ∀ (k : Nat) (rs : List Addr) (ys : List Tri), ys.length = rs.length → (∀ (j : Nat) r y, rs[j]? = some r → ys[j]? = some y → H r = some (.tup [.int y.1, .int y.2.1, .int y.2.2])) → (∀ r ∈ rs, r ∉ [pu]) → DpAll K (hid [pu] H) (rs.map V.ref) (ys.map dTri) := by
    intro _ rs
    induction rs with
    | nil => intro ys h _ _; cases ys with
      | nil => exact .nil
      | cons y r => simp at h
    | cons r t ih => intro ys h rows np; cases ys with
      | nil => simp at h
      | cons y ys =>
        refine .cons (.tup (stp ?_) (dpa_of_ints [y.1, y.2.1, y.2.2])) (ih ys (by simpa using h) (fun j r y hr hy => rows (j + 1) r y (by simpa using hr) (by simpa using hy)) fun r hr => np r (List.mem_cons_of_mem _ hr))
        rw [hid_ne (np r List.mem_cons_self)]
        exact rows 0 r y rfl rfl
  refine key 0 rs xs ll (fun j r y hr hy => ?_) np
  have hj : j < xs.length := (List.getElem?_eq_some_iff.mp hy).1
  have e := getT hj
  rw [hy] at e
  rw [rows j r hr]
  cases e
  rfl
theorem cnt_take {es : List Ent} {p : Ent → Bool} (d : Ent) : ∀ k, k ≤ es.length → (es.take k).countP p = (List.range k).countP fun j => p (es.getD j d)
  | 0, _ => by simp
  | k + 1, h => by
    rw [List.take_add_one, List.countP_append, cnt_take d k (by omega), List.range_succ, List.countP_append]
    rw [List.getElem?_eq_getElem (show k < es.length by omega)]
    simp [List.getD_eq_getElem?_getD, List.getElem?_eq_getElem (show k < es.length by omega)]
theorem lines_right {n : Int} {ws : List (Int × Int)} {es : List Ent} {hs os : List Int} (o : GvOk n ws es hs os) {k : Nat} (hk : k < es.length) : RightAt (ws.map tieW) (linesOf es hs os) k := by
  have h1 := o.lh
  have h2 := o.lo
  obtain ⟨good, tie, wok, lh, lo, hue, right, own⟩ := o
  have row : ∀ j, j < es.length → rowT (ws.map tieW) j = (es.getD j ((0, 0), 0)).1 := fun j hj => by
    unfold rowT
    rw [← tie, List.getD_eq_getElem?_getD, List.getElem?_map, List.getElem?_eq_getElem hj, List.getD_eq_getElem?_getD, List.getElem?_eq_getElem hj]; rfl
  have ge : ∀ j, j < es.length → es[j]? = some (es.getD j ((0, 0), 0)) := fun j hj => by
    rw [List.getD_eq_getElem?_getD, List.getElem?_eq_getElem hj]; rfl
  have gh : ∀ j, j < es.length → hs[j]? = some (hs.getD j 0) := fun j hj => by
    rw [List.getD_eq_getElem?_getD, List.getElem?_eq_getElem (show j < hs.length by omega)]; rfl
  have go_ : ∀ j, j < es.length → os[j]? = some (os.getD j 0) := fun j hj => by
    rw [List.getD_eq_getElem?_getD, List.getElem?_eq_getElem (show j < os.length by omega)]; rfl
  have lt := fun j hj => lines_T (es := es) (hs := hs) (os := os) (j := j) hj
  have lw : (ws.map tieW).length = es.length := by rw [← tie]; simp
  obtain ⟨o1, ⟨o2, o3⟩, o4⟩ := own k (es.getD k ((0, 0), 0)) (os.getD k 0) (ge k hk) (go_ k hk)
  have gpos : 1 ≤ (es.getD k ((0, 0), 0)).2 := (good k (es.getD k ((0, 0), 0)).1 (es.getD k ((0, 0), 0)).2 (ge k hk)).2.1
  unfold RightAt
  rw [(lt k hk).1, (lt k hk).2.1, (lt k hk).2.2, row k hk, Int.toNat_natCast]
  refine ⟨by omega, o1, hue k _ _ (ge k hk) (gh k hk), ?_, ?_, ?_⟩
  · have e : cntT (ws.map tieW) (linesOf es hs os) k (((es.getD k ((0, 0), 0)).2 : Nat) : Int) (os.getD k 0) = upto (es.take k) (os.getD k 0) ((es.getD k ((0, 0), 0)).2 - 1) := by
      unfold cntT upto
      rw [cnt_take ((0, 0), 0) k (by omega)]
      refine List.countP_congr fun j hj => ?_
      have hj' := List.mem_range.mp hj
      rw [(lt j (by omega)).1, row j (by omega), pUp_on]
      simp only [Bool.and_eq_true, decide_eq_true_eq]
      exact ⟨fun z => ⟨by have := z.1; omega, z.2⟩, fun z => ⟨by have := z.1; omega, z.2⟩⟩
    rw [e, o2]
    omega
  · intro j hj jk lv
    rw [lw, lines_len h1 h2] at hj
    have hj' : j < es.length := by omega
    rw [(lt j hj').1] at lv
    rw [row j hj']
    exact own_is good (n := k) (i := (es.getD k ((0, 0), 0)).2) (w := (es.getD k ((0, 0), 0)).1) (ge k hk) o1 (by rw [o2]; exact Nat.le_refl _) j _ (ge j hj') jk (by omega)
  · intro j hj e m
    have hj' : j < es.length := by omega
    rw [(lt j hj').2.2] at e
    rw [row j hj'] at m
    have := right j k _ _ hj (ge j hj') (ge k hk) m
    rw [gh j hj', gh k hk, e] at this
    exact this rfl
theorem lines_due {n : Int} {ws : List (Int × Int)} {es : List Ent} {hs os : List Int} (o : GvOk n ws es hs os) : dueT (ws.map tieW) (linesOf es hs os) = none := by
  have lw : (ws.map tieW).length = es.length := by rw [← o.tie]; simp
  rw [due_all (fun j hj => lines_right o (by rw [lw] at hj; omega)), if_pos (by rw [lw, lines_len o.lh o.lo])]
theorem sh_tris {n : Nat} (xs : List Tri) : Sh (n + 2) (dTris xs) := sh_list fun d hd => by
  obtain ⟨t, _, rfl⟩ := List.mem_map.mp hd
  exact sh_tup fun d hd => by
    simp only [List.mem_cons, List.not_mem_nil, or_false] at hd
    rcases hd with rfl | rfl | rfl <;> exact sh_int
theorem opt_ty {H : Hp} (o : Option Int) : TyX K H (optV o) (.type (if o.isSome then "int" else "NoneType")) ∧ kitB (if o.isSome then "int" else "NoneType") "bool" = some false := by
  cases o with
  | some i => exact ⟨.base (.int i), show kitB "int" "bool" = some false by decide +kernel⟩
  | none => exact ⟨.base .non, show kitB "NoneType" "bool" = some false by decide +kernel⟩
/-- the ways put one by one -/
theorem lc_puts (T : Txt K mg A) {σ : L2.St} {vs : List Nat} {i j : Nat} {pu : Addr} {n kk : Int} {g : Gv} {H9 H10 : Hp} {D : Addr} {ws : List (Int × Int)} {ys : List V} {QD : Addr → Hp → Prop}
    (hi : ∀ x, ((wipe σ vs).set j (some x))[i]? = some (some (.ref g.a))) (hj : ∀ x, ((wipe σ vs).set j (some x))[j]? = some (some x)) (hwp : ∀ x, wipe ((wipe σ vs).set j (some x)) vs = wipe σ vs)
    (L9 : Le H9 pu kk) (eD : hid [pu] H9 D = some (.lst ys)) (dys : DpAll K (hid [pu] H9) ys (ws.map dPair)) (lw : ws.length ≤ 40) (wok : ∀ w ∈ ws, isWay (.line n) w.1 w.2)
    (s10 : Same H9 H10) (ga10 : GvAt K A (hid [] H10) g n [] [] [] []) (fr : ∀ x ∈ g.cells, H9 x = none)
    (h : ∀ Dh es hs os H', Same (hid [pu] H9) (hid [pu] H') → Le H' pu kk → GvAt K A H' g n ws es hs os → GvOk n ws es hs os → H' Dh = some (.lst (hs.map V.int)) → QD Dh H') :
    ∃ a', V.ref D = .ref a' ∧ (∃ xs, SqL K H10 a' xs) ∧ ∀ Dh, H10 Dh = none → ∃ W : Nat → Nat → Hp → Prop, (∃ m, W 0 m (upd H10 Dh (.lst []))) ∧ ∀ t m H, W t m H →
      ((Itl K a').stop t H ∧ QD Dh H) ∨ ((Itl K a').go t H ∧ ∃ Nx : Hp → Prop, (∀ H', Nx H' → ∃ m', m' < m ∧ W (t + 1) m' H') ∧ ∀ x H', (Itl K a').yld t H x H' → gName j x (wipe σ vs) H' fun σ2 H2 => wipe σ2 vs = wipe σ vs ∧ tYes σ2 H2 fun b H3 =>
        if b = true then tMeth A.c_Giver "put" (sp_Giver_put K A) [] E0 (tVar i) (tCons (tVar j) tNil) σ2 H3 fun y H4 => ∃ acc, H4 Dh = some (.lst acc) ∧ acc.length < sizeLine ∧ Nx (upd H4 Dh (.lst (acc ++ [y]))) else Nx H3) := by
  have ly : ys.length = ws.length := by rw [dpa_len dys, List.length_map]
  have hD10 : H10 D = some (.lst ys) := s10 _ _ (hid_same _ _ _ _ eD)
  refine ⟨D, rfl, ⟨ys, sl hD10⟩, fun Dh nDh => ?_⟩
  have nDh9 := s10.free nDh
  have dc : Dh ∉ g.cells := fun z => (ga10.same (hid_same _ _)).there Dh z nDh
  have frC : ∀ x ∈ Dh :: g.cells, H9 x = none := fun x hx => by
    rcases List.mem_cons.mp hx with rfl | hx
    · exact nDh9
    · exact fr x hx
  refine lc_list (xs := ys) (fun t H => Same H9 (hid (Dh :: g.cells) H) ∧ ∃ es hs os, GvAt K A (hid [Dh] H) g n (ws.take t) es hs os ∧ GvOk n (ws.take t) es hs os ∧ H Dh = some (.lst (hs.map V.int))) ⟨?_, [], [], [], ?_, gv_ok0 n, upd_same⟩ (fun t H _ e => (e.1.trans (hid_same _ _)).seq (sl (hid_same _ _ _ _ eD))) ?_ ?_
  · rw [hid_upd (by simp)]
    exact (hid_free frC).trans (hid_mono s10)
  · rw [hid_upd (by simp)]
    exact (ga10.same (hid_same _ _)).same (hid_free1 nDh)
  · rintro t x H hx ⟨SZ, es, hs, os, ga, gok, eDh⟩
    have ht : t < ws.length := by rw [← ly]; exact (List.getElem?_eq_some_iff.mp hx).1
    obtain ⟨⟨wa, wb⟩, hw⟩ : ∃ w, ws[t]? = some w := ⟨ws[t], List.getElem?_eq_getElem ht⟩
    obtain ⟨d, hd, dx⟩ := dpa_get dys hx
    rw [List.getElem?_map, hw] at hd
    cases hd
    have le : es.length = t := by
      have := congrArg List.length gok.tie
      simp only [List.length_map, List.length_take] at this
      omega
    refine k_gname (k_wipe (hwp _) (k_yes (iteT ?_)))
    refine ⟨_, hi _, ?_⟩
    refine ⟨g.a, g.dx, _, rfl, (ga.same (hid_same _ _)).ins, rfl, ?_⟩
    refine k_cons (k_var (hj _) (k_nil ?_))
    refine ⟨_, _, rfl, g, n, [Dh], ws.take t, es, hs, os, wa, wb, rfl, ga, gok, (fun x z => by rw [List.mem_singleton.mp z, eDh]; simp), ?_, wok _ (List.mem_of_getElem? hw), by omega, fun hh ii tt H' S' lv hl ga' gok' => ?_⟩
    · exact dp_same ((hid_same [pu] H9).trans (SZ.trans (hid_sub fun x hx => List.mem_cons_of_mem _ hx))) dx
    have eDh' : H' Dh = some (.lst (hs.map V.int)) := keeps S' eDh dc
    have e1 : ws.take (t + 1) = ws.take t ++ [(wa, wb)] := by rw [List.take_add_one, hw]; rfl
    refine ⟨_, eDh', szl (by have := gok.lh; simp; omega), ?_, es ++ [(tieW (wa, wb), ii)], hs ++ [hh], os ++ [tt], ?_, ?_, ?_⟩
    · rw [hid_upd (by simp)]
      exact SZ.trans (hid_more S' fun x hx => List.mem_cons_of_mem _ hx)
    · rw [hid_upd (by simp), e1]; exact ga'
    · rw [e1]; exact gok'
    · rw [upd_same, List.map_append]; rfl
  · rintro H ⟨SZ, es, hs, os, ga, gok, eDh⟩
    rw [ly, List.take_length] at ga gok
    refine h Dh es hs os H ((hid_mono SZ).trans ?_) (L9.same (SZ.trans (hid_same _ _))) (ga.same (hid_same _ _)) gok eDh
    exact hid_mono (hid_same _ _)


/-- the law's outer loop: over [c] + script[:z] -/
theorem law_frameN {BODY : TS} {c z : Int} {N : Nat} {m : Nat} {a : Addr} {ns : List Int} {H : Hp} {Q : VK} {n0 : L2.St → Hp → Prop} {bk ct : L2.St → Hp → Prop} (hz : z = N) (hn : ns.length ≤ 63) (ha : SqL K H a (ns.map V.int)) (q : ∀ H', Q (.bl true) H')
    (body : ∀ (cell : Int) (l : List (Option V)) (H3 H4 : Hp) (nx : L2.St → Hp → Prop), l.length = m → Same H3 H4 →
      BODY ⟨fun σ' H' => Same H3 H' ∧ ∃ l' : List (Option V), l'.length = m + 1 ∧ σ' = some (.ref a) :: l', Q, nx, fun σ' H' => Same H3 H' ∧ ∃ l' : List (Option V), l'.length = m + 1 ∧ σ' = some (.ref a) :: l'⟩ (some (.ref a) :: some (.int cell) :: l) H4) :
    tSeq (tFor (iList K (tOp rCat (tLst (tCons (tC (.int c)) tNil)) (tSl (rSlL K) (tVar 0) tNoPart (tPart (tC (.int z)))))) (gName 1) BODY) (tRet (tC (.bl true))) ⟨n0, Q, bk, ct⟩ (some (.ref a) :: List.replicate (m + 1) none) H := by
  wtm_at "s"
  refine ⟨sz (by simp), fun l1 n1 => ?_⟩
  have s1 := same_new (o := .lst [.int c]) n1
  have e1 := upd_same (H := H) (a := l1) (o := .lst [.int c])
  generalize upd H l1 (.lst [.int c]) = H1 at s1 e1 ⊢
  wtm_at "s"
  refine ⟨a, _, rfl, s1.seq ha, fun l2 n2 => ?_⟩
  rw [hz, cutTo N]
  have s2 := same_new (o := .lst ((ns.take N).map V.int)) n2
  have e2 := upd_same (H := H1) (a := l2) (o := .lst ((ns.take N).map V.int))
  generalize upd H1 l2 (.lst ((ns.take N).map V.int)) = H2 at s2 e2 ⊢
  refine k_cat (s2 _ _ e1) e2 (by simp; omega) (fun l3 n3 => ?_)
  have e3 : upd H2 l3 (.lst ([.int c] ++ (ns.take N).map V.int)) l3 = some (.lst ((c :: ns.take N).map V.int)) := upd_same
  generalize upd H2 l3 (.lst ([.int c] ++ (ns.take N).map V.int)) = H3 at e3 ⊢
  wtm_at "s"
  refine forL (sl e3) (fun i σ' H' => Same H3 H' ∧ ∃ l' : List (Option V), l'.length = m + 1 ∧ σ' = some (.ref a) :: l') ⟨Same.refl _, List.replicate (m + 1) none, by simp, rfl⟩ (fun i σ' H' _ e => e.1.seq (sl e3)) ?_ ?_
  · rintro i x σ' H4 hx ⟨sm, l', hl', rfl⟩
    rw [List.getElem?_map] at hx
    obtain ⟨cell, _, rfl⟩ := Option.map_eq_some_iff.mp hx
    cases l' with
    | nil => simp at hl'
    | cons y l => exact body cell l H3 H4 _ (by simpa using hl') sm
  · rintro σ' H' ⟨sm, l', hl', rfl⟩
    wtm_at "s"
    exact q _

def sp_law (K : PySem.W.Frag) : Sp := fun vs H Q _ => ∃ (a : Addr) (ns : List Int), vs = [.ref a] ∧ SqL K H a (ns.map V.int) ∧ ns.length ≤ 63 ∧ ∀ H', Q (.bl true) H'
def t_law (K : PySem.W.Frag) (A : Ad) : TS :=
  (tSeq (tFor (iList K (tOp rCat (tLst (tCons (tC (.int 0)) tNil)) (tSl (rSlL K) (tVar 0) tNoPart (tPart (tC (.int 8)))))) (gName 1)
      (tSeq (tAsg (tCall (sp_law_left K) [] E0 (tCons (tLst (tCons (tVar 1) tNil)) (tCons (tC (.int 0)) tNil))) (gName 2))
    (tSeq (tAsg (tCall (sp_law_line K) [] E0 (tCons (tVar 2) tNil)) (gName 3))
    (tSeq (tAsg (tCall (sp_law_ways K) [] E0 (tCons (tVar 2) (tCons (tOp (rIxT K) (tVar 3) (tC (.int 1))) tNil))) (gName 4))
    (tSeq (tAsg (tCall (sp_law_lain K) [] E0 (tCons (tVar 4) tNil)) (gName 5))
    (tSeq (tAsg (tMake A.c_Giver (sp_Giver_init K A) [] E0 (tCons (tVar 3) tNil)) (gName 6))
    (tSeq (tAsg (tLc (iList K (tVar 4)) (gName 13) tYes (tMeth A.c_Giver "put" (sp_Giver_put K A) [] E0 (tVar 6) (tCons (tVar 13) tNil)) [13]) (gName 7))
    (tSeq (tAsg (tMeth A.c_Giver "levels" (sp_Giver_levels K A) [] E0 (tVar 6) tNil) (gName 8))
    (tSeq (tAsg (tLc (iRng1 (tCons (tCB (rLen K) (tCons (tVar 4) tNil)) tNil)) (gName 14) tYes (tTup (tCons (tOp (rIxL K) (tVar 8) (tVar 14)) (tCons (tMeth A.c_Giver "own_tie" (sp_Giver_own_tie K A) [] E0 (tVar 6) (tCons (tVar 14) tNil)) (tCons (tOp (rIxL K) (tVar 7) (tVar 14)) tNil)))) [14]) (gName 9))
    (tSeq (tIfS (tTest (tOp xNotN (tCall (sp_law_due K) [] E0 (tCons (tVar 5) (tCons (tVar 9) tNil))) (tC .non))) (tRet (tC (.bl false))) tNext)
    (tFor (iList K (tLst (tCons (tVar 9) (tCons (tCall (sp_law_bent K) [] E0 (tCons (tVar 2) (tCons (tVar 9) (tCons (tOp (rIxT K) (tVar 3) (tC (.int 1))) tNil)))) (tCons (tCall (sp_law_bent K) [] E0 (tCons (tVar 2) (tCons (tVar 9) (tCons (tOp (rIxT K) (tVar 3) (tC (.int 1))) tNil)))) tNil))))) (gName 10)
      (tSeq (tAsg (tLst (tCons (tCB (rListOf K) (tCons (tVar 4) tNil)) (tCons (tCB (rListOf K) (tCons (tVar 10) tNil)) tNil))) (gName 11))
    (tSeq (tAsg (tCall (sp_shows K) [] E0 (tCons (tVar 3) (tCons (tOp (rIxL K) (tVar 11) (tC (.int 0))) (tCons (tOp (rIxL K) (tVar 11) (tC (.int 1))) tNil)))) (gName 12))
    (tIfS (tOr (tTest (tOp (rNeD K) (tVar 12) (tCall (sp_law_due K) [] E0 (tCons (tVar 5) (tCons (tVar 10) tNil))))) (tOr (tB (tCB (rIsi K) (tCons (tVar 12) (tCons (tC (.ty "bool")) tNil)))) (tTest (tOp (rNeD K) (tVar 11) (tLst (tCons (tVar 4) (tCons (tVar 10) tNil))))))) (tRet (tC (.bl false))) tNext))))))))))))))
    (tRet (tC (.bl true))))
theorem pure_law (T : Txt K mg A) {v0 : V} {H : Hp} {Q : VK} (h : ∃ (a : Addr) (ns : List Int), v0 = .ref a ∧ SqL K H a (ns.map V.int) ∧ ns.length ≤ 63 ∧ ∀ H', Q (.bl true) H') : t_law K A ⟨fun _ H' => Q .non H', Q, fun _ _ => False, fun _ _ => False⟩ [some v0, none, none, none, none, none, none, none, none, none, none, none, none, none, none] H := by
  obtain ⟨a, ns, rfl, ha, hz, q⟩ := h
  unfold t_law
  refine law_frameN (m := 13) (N := 8) rfl hz ha q ?_
  clear ha hz q H ns
  intro cell l H3 H4 nx hl sm
  match l, hl with
  | [k2, k3, k4, k5, k6, k7, k8, k9, k10, k11, k12, k13, k14], _ =>
  wtm_at "s"
  refine kL (by simp) (fun c1 H5 nc1 s5 ec1 => ?_)
  wtm_at "s"
  refine ⟨_, _, rfl, c1, [cell], 0, rfl, rfl, sl ec1, by decide, fun pu H6 npu s6 L6 => ?_⟩
  have h0 : Same H5 (hid [pu] H6) := (hid_free1 npu).trans (hid_mono s6)
  wtm_at "s"
  refine ⟨_, rfl, pu, 0, rfl, L6, by decide, fun nt n H7 nnt nnt' L7 S7 ent n0 n1 => ?_⟩
  wtm_at "s"
  refine ⟨_, _, rfl, pu, _, n, rfl, rfl, L7, by omega, n0, by omega, fun D ys ws kk H8 nD nD' L8 hkk S8 eD dys lw wok => ?_⟩
  have wok' : ∀ w ∈ ws, isWay (.line n) w.1 w.2 := fun w hw => by
    obtain ⟨h1, h2, h3, h4, h5⟩ := wok w hw
    exact ⟨h1, h2, h4, h3, h5⟩
  wtm_at "s"
  have pu8 : ∀ b ∈ [pu], H8 b ≠ none := fun b z => by
    rw [List.mem_singleton.mp z]
    obtain ⟨x, f, hp, _⟩ := L8.hp
    rw [hp]; simp
  refine ⟨_, rfl, [pu], ws, pu8, .lst (sl eD) (dpa_same (hid_same _ _) dys), lw, (fun w hw => ?_), fun lp H9 nlp s9 d9 => ?_⟩
  · obtain ⟨h1, h2, h3, h4, h5⟩ := wok w hw
    omega
  have eD9 : hid [pu] H9 D = some (.lst ys) := by rw [hid_ne nD']; exact s9 _ _ eD
  have dy9 : DpAll K (hid [pu] H9) ys (ws.map dPair) := dpa_same ((hid_sub (fun x hx => List.mem_cons.mpr (.inl (List.mem_singleton.mp hx)))).trans (hid_mono s9)) dys
  have dn : Dp K (hid [pu] H9) (.ref nt) (Net.line n).d := .tup (stp (hid_mono s9 _ _ (S8 _ _ ent))) (.cons (.str _) (.cons (.int _) .nil))
  have sB : Same H3 (hid [pu] H9) := sm.trans (s5.trans (h0.trans (S7.trans (S8.trans (hid_mono s9)))))
  have L9 := L8.same s9
  have ent9 := hid_mono s9 _ _ (S8 _ _ ent)
  clear s9 nlp wok dys eD S8 L8 nD ent S7 L7 nnt nnt' h0 L6 s6 npu s5 ec1 nc1 sm pu8
  wtm_at "s"
  refine k_newGv [] (fun x z => by cases z) (dp_same (hid_same _ _) dn) ⟨n0, n1⟩ (fun g H10 s10 ga10 fr => ?_)
  wtm_at "s"
  refine lc_puts T (pu := pu) (H9 := H9) (ws := ws) (ys := ys) (fun σ' => rfl) (fun x => rfl) (fun x => rfl) L9 eD9 dy9 lw wok' s10 ga10 fr (fun Dh es hs os H11 S11 L11 ga gok eDh => ?_)
  have sB1 := sB.trans S11
  have eD11 := S11 _ _ eD9
  have dy11 := dpa_same S11 dy9
  have dn11 := dp_same S11 dn
  have ent11 := S11 _ _ ent9
  have d11 : Dp K (hid [pu] H11) (.ref lp) (dLain ws) := dp_same S11 d9
  clear sB S11 eD9 dy9 dn ent9 d9 L9 ga10 fr s10
  have ly : ys.length = ws.length := by rw [dpa_len dy11, List.length_map]
  have le : es.length = ws.length := by
    have := congrArg List.length gok.tie
    simpa only [List.length_map] using this
  wtm_at "s"
  refine k_mF ga.ins rfl ?_
  wtm_at "s"
  refine ⟨_, rfl, g.a, g.dx, g.lv, _, _, rfl, ga.ins, rfl, ga.lev, fun lv H12 nlv s12 elv => ?_⟩
  have eDh12 := s12 _ _ eDh
  have ga12 := ga.same s12
  have L12 := L11.same s12
  obtain ⟨cs, ecm, dcs⟩ := ga12.come
  have lcs := dpa_len dcs
  rw [List.length_map] at lcs
  have hD12 : SqL K H12 D ys := sl (s12 _ _ (hid_same _ _ _ _ eD11))
  wtm_at "s"
  refine lc_rowsR (by omega) (fun j => .tup [.int (levT (linesOf es hs os) j), .int (tieT (linesOf es hs os) j), .int (hueT (linesOf es hs os) j)]) ?_ (fun ln rs H13 nln s13 eln lrs nd nin frs rows => ?_)
  · intro j H' hj sm' R R0 g1
    have hj' : j < ws.length := by omega
    obtain ⟨o1, o2, o3⟩ := lines_at gok le hj'
    rw [Int.zero_add]
    wtm_at "s"
    refine k_ixN (sl (sm' _ _ elv)) o1 ?_
    wtm_at "s"
    refine k_mF (sm' _ _ ga12.ins) rfl ?_
    wtm_at "s"
    refine ⟨_, _, rfl, g.a, g.dx, g.ow, g.cm, _, _, cs, j, _, rfl, rfl, sm' _ _ ga12.ins, rfl, rfl, sm' _ _ ecm, sm' _ _ ga12.own, by omega, by rw [List.getElem?_map, o2]; rfl, ?_⟩
    wtm_at "s"
    refine k_ixN (sl (sm' _ _ eDh12)) o3 ?_
    wtm_at "s"
    exact ⟨sz (by simp), fun p np => g1 p _ np (same_new np) upd_same⟩
  rw [Int.toNat_natCast, ly] at lrs
  have S13 : Same (hid [pu] H11) (hid [pu] H13) := hid_mono (s12.trans s13)
  have L13 := L12.same s13
  have dls : DpAll K (hid [pu] H13) (rs.map V.ref) ((linesOf es hs os).map dTri) := lines_dp (le.trans lrs.symm) (gok.lh) (gok.lo) rows (fun r hr z => by
    have h1 := frs r hr
    rw [List.mem_singleton.mp z] at h1
    obtain ⟨x, f, hp, _⟩ := L12.hp
    rw [hp] at h1; cases h1)
  have eln13 : hid [pu] H13 ln = some (.lst (rs.map V.ref)) := L12.at nln eln
  have ll : (linesOf es hs os).length = ws.length := by rw [lines_len gok.lh gok.lo, le]
  have due0 := lines_due gok
  have sB3 := sB1.trans S13
  have eD13 := S13 _ _ eD11
  have dy13 := dpa_same S13 dy11
  have dn13 := dp_same S13 dn11
  have ent13 := S13 _ _ ent11
  have d13 : Dp K (hid [pu] H13) (.ref lp) (dRows (ws.map tieW)) := by
    have := dp_same S13 d11
    rwa [show dLain ws = dRows (ws.map tieW) by show PyData.list _ = PyData.list _; rw [rows_eq]] at this
  clear S13 sB1 eD11 dy11 dn11 ent11 d11 rows frs nin nd eln nln s13 hD12 dcs ecm lcs ga12 L12 eDh12 s12 elv nlv ga L11 eDh gok
  generalize linesOf es hs os = lx at dls ll due0
  have rok := rows_ok wok'
  wtm_at "s"
  refine ⟨_, _, rfl, ws.map tieW, lx, ⟨dp_same (hid_same _ _) d13, .lst (sl (hid_same _ _ _ _ eln13)) (dpa_same (hid_same _ _) dls), by simp; omega, by omega, rok⟩, fun H14 s14 => ?_⟩
  rw [due0]
  have L14 := L13.same s14
  have S14 := hid_mono (S := [pu]) s14
  have ent14 := same_seqT (S14.trans (hid_same _ _)) (stp (K := K) ent13)
  have T13 : Tris K (hid [pu] H13) (rs.map V.ref) 40 := ⟨lx, dls, by omega⟩
  rw [show optV none = V.non from rfl]
  wtm_at "s"
  refine ⟨_, _, _, rfl, pu, ln, _, n, _, rfl, rfl, rfl, n0, n1, L14, by omega, S14 _ _ eln13, T13.same S14, fun b1 vs1 k1 H15 L15 hk1 S15 e15 T15 => ?_⟩
  have ent15 := same_seqT ((S14.trans S15).trans (hid_same _ _)) (stp (K := K) ent13)
  have S135 := S14.trans S15
  wtm_at "s"
  refine ⟨_, _, _, rfl, pu, ln, _, n, _, rfl, rfl, rfl, n0, n1, L15, by omega, S135 _ _ eln13, T13.same S135, fun b2 vs2 k2 H16 L16 hk2 S16 e16 T16 => ?_⟩
  wtm_at "s"
  refine kLp L16 (by simp) (fun th H17 nth s17 e17 => ?_)
  have S17 := hid_mono (S := [pu]) s17
  have S3 := S135.trans (S16.trans S17)
  have dn17 := dp_same (S3.trans (hid_same _ _)) dn13
  have d17 := dp_same (S3.trans (hid_same _ _)) d13
  have dw17 : Dp K H17 (.ref D) (dPairs ws) := dp_same (S3.trans (hid_same _ _)) (.lst (sl eD13) dy13)
  have all3 : ∀ x ∈ [V.ref ln, .ref b1, .ref b2], ∃ p xs, x = .ref p ∧ Dp K H17 (.ref p) (dTris xs) ∧ xs.length ≤ 200 := by
    intro x hx
    simp only [List.mem_cons, List.not_mem_nil, or_false] at hx
    rcases hx with rfl | rfl | rfl
    · exact ⟨ln, lx, rfl, dp_same (S3.trans (hid_same _ _)) (.lst (sl eln13) dls), by omega⟩
    · obtain ⟨xs, h1, h2⟩ := T15
      exact ⟨b1, xs, rfl, dp_same ((S16.trans S17).trans (hid_same _ _)) (.lst (sl e15) h1), h2⟩
    · obtain ⟨xs, h1, h2⟩ := T16
      exact ⟨b2, xs, rfl, dp_same (S17.trans (hid_same _ _)) (.lst (sl e16) h1), h2⟩
  have sB7 := (sB3.trans S3).trans (hid_same _ _)
  have e17' := hid_same _ _ _ _ e17
  clear S3 S17 S16 S135 S15 S14 sB3 T13 T15 T16 L13 L14 L15 L16 eD13 dy13 dn13 ent13 ent14 ent15 d13 dls eln13 s14 s17 e15 e16 e17 nth due0
  wtm_at "s"
  refine forL (sl e17') (fun i σ' H' => Same H17 H' ∧ ∃ k10 k11 k12, σ' = [some (.ref a), some (.int cell), some (.ref pu), some (.ref nt), some (.ref D), some (.ref lp), some (.ref g.a), some (.ref Dh), some (.ref lv), some (.ref ln), k10, k11, k12, k13, k14]) ⟨Same.refl _, _, _, _, rfl⟩ (fun i σ' H' _ e => e.1.seq (sl e17')) ?_ ?_
  · rintro i x σ' H' hx ⟨s0, k10, k11, k12, rfl⟩
    obtain ⟨p, xs, rfl, dx, lx'⟩ := all3 x (List.mem_of_getElem? hx)
    obtain ⟨D', ys', e', hD, dys⟩ := dp_list dw17
    cases e'
    obtain ⟨p', xs', e', hp, dxs⟩ := dp_list dx
    cases e'
    wtm_at "s"
    refine k_listN (s0.seq hD) (fun q1 G1 nq1 s1 eq1 => ?_)
    wtm_at "s"
    refine k_listN ((s0.trans s1).seq hp) (fun q2 G2 nq2 s2 eq2 => ?_)
    wtm_at "s"
    refine kL (by simp) (fun q3 G3 nq3 s3 eq3 => ?_)
    have s03 := s0.trans (s1.trans (s2.trans s3))
    wtm_at "s"
    refine k_ixL (sl eq3) (v := .ref q1) rfl ?_
    wtm_at "s"
    refine k_ixL (sl eq3) (v := .ref q2) rfl ?_
    wtm_at "s"
    have dq1 : Dp K G3 (.ref q1) (dPairs ws) := .lst (sl ((s2.trans s3) _ _ eq1)) (dpa_same s03 dys)
    have dq2 : Dp K G3 (.ref q2) (dTris xs) := .lst (sl (s3 _ _ eq2)) (dpa_same s03 dxs)
    refine ⟨_, _, _, rfl, n, ws, xs, dp_same s03 dn17, ⟨n0, n1⟩, dq1, dq2, by omega, by omega, wok', fun G4 s4 => ?_⟩
    wtm_at "s"
    refine ⟨_, _, rfl, ws.map tieW, xs, ⟨dp_same (s03.trans s4) d17, dp_same (s03.trans s4) dx, by simp; omega, by omega, rok⟩, fun G5 s5 => ?_⟩
    refine k_neD0 (n := 4) (dp_opt _) (dp_opt _) (sh_opt _) (by decide) ?_
    wtm_at "s"
    refine k_isi (c := "bool") (opt_ty (K := K) (H := G5) _).1 (opt_ty (K := K) (H := G5) _).2 ?_
    wtm_at "s"
    refine kL (by simp) (fun q4 G6 nq4 s6 eq4 => ?_)
    have s36 := s4.trans (s5.trans s6)
    have s06 := s03.trans s36
    refine k_neD0 (n := 6) (c := .list [dPairs ws, dTris xs]) (.lst (sl (s36 _ _ eq3)) (.cons (dp_same s36 dq1) (.cons (dp_same s36 dq2) .nil))) (.lst (sl eq4) (.cons (dp_same s06 dw17) (.cons (dp_same s06 dx) .nil))) (sh_l2 (sh_pairs _) (sh_tris _)) (by decide) ?_
    wtm_at "s"
    exact ⟨s06, _, _, _, rfl⟩
  · rintro σ' H' ⟨s0, k10, k11, k12, rfl⟩
    exact ⟨sB7.trans s0, _, rfl, rfl⟩
theorem ok_law (T : Txt K mg A) : FnOk P w K mg base CX0 6 A.a_law A.d_law ["_law_script"] (sp_law K) := by
  refine T.F_law.ok sc_law (fun vs H Q E h => by obtain ⟨a, ns, rfl, _⟩ := h; rfl) (fun cdv A0 outer s H vs Q E hr h => ?_)
  obtain ⟨a, ns, rfl, h⟩ := h
  exact ⟨t_law K A, (pss_cons (ps_for PassesOwn.never rfl (pi_list (pe_op op_cat (pe_lst (pa_cons pe_int pa_nil)) (pe_slice sl_list (pv 0) po_none (po_some pe_int)))) (pg_name (i := 1) sc_law.nd rfl (Or.inl rfl))
      (pss_cons (ps_set (i := 2) sc_law.nd rfl (Or.inl rfl) (pe_call (ok_law_left T) (hr.mono (by decide)) (by rfl) T.g_law_left T.F_law_left.kp T.b_law_left .nil pass0 (pa_cons (pe_lst (pa_cons (pv 1) pa_nil)) (pa_cons pe_int pa_nil))))
      (pss_cons (ps_set (i := 3) sc_law.nd rfl (Or.inl rfl) (pe_call (ok_law_line T) (hr.mono (by decide)) (by rfl) T.g_law_line T.F_law_line.kp T.b_law_line .nil pass0 (pa_cons (pv 2) pa_nil)))
      (pss_cons (ps_set (i := 4) sc_law.nd rfl (Or.inl rfl) (pe_call (ok_law_ways T) (hr.mono (by decide)) (by rfl) T.g_law_ways T.F_law_ways.kp T.b_law_ways .nil pass0 (pa_cons (pv 2) (pa_cons (pe_ix ix_tup (pv 3) pe_int (fun _ _ => rfl)) pa_nil))))
      (pss_cons (ps_set (i := 5) sc_law.nd rfl (Or.inl rfl) (pe_call (ok_law_lain T) (hr.mono (by decide)) (by rfl) T.g_law_lain T.F_law_lain.kp T.b_law_lain .nil pass0 (pa_cons (pv 4) pa_nil)))
      (pss_cons (ps_set (i := 6) sc_law.nd rfl (Or.inr rfl) (pe_make T.M_Giver (ok_Giver_init T) (hr.mono (by decide)) (by rfl) T.k_Giver T.b_Giver_init .nil pass0 (pa_cons (pv 3) pa_nil)))
      (pss_cons (ps_set (i := 7) sc_law.nd rfl (Or.inr rfl) (pe_lc (own := [("_law_way_here", 13)]) (by rfl) sc_law.nd (pi_list (pv 4)) (blkOk_by (own := [("_law_way_here", 13)]) (N := ["_law_script", "_law_cell", "_law_left_here", "_law_net", "_law_ways_here", "_law_lain_here", "_law_giver", "_law_hues", "_law_levels", "_law_lines", "_law_some", "_law_handed", "_law_told", "_law_way_here", "_law_k"]) (sc := defScope s_law) (by decide +kernel)) (fun _ _ _ _ _ => (pg_name (i := 13) sc_law.nd rfl (Or.inl rfl))) (fun _ _ _ _ _ => pts_nil) (fun _ _ _ _ _ => (pe_meth (pv 6) T.K_Giver T.Me_Giver_put (ok_Giver_put T) (hr.mono (by decide)) T.b_Giver_put .nil pass0 (pa_cons (pv 13) pa_nil)))))
      (pss_cons (ps_set (i := 8) sc_law.nd rfl (Or.inr rfl) (pe_meth0 (pv 6) T.K_Giver T.Me_Giver_levels (ok_Giver_levels T) (hr.mono (by decide)) T.b_Giver_levels .nil pass0 ))
      (pss_cons (ps_setLc (i := 9) (own := [("_law_k", 14)]) (by rfl) sc_law.nd rfl rfl (sw_true rfl rfl rfl (by decide +kernel)) (pi_range1 (by rfl) T.z_range (pa_cons (pe_callB q_len (by rfl) T.z_len (by decide +kernel) (pa_cons (pv 4) pa_nil)) pa_nil)) (blkOk_by (own := [("_law_k", 14)]) (N := ["_law_script", "_law_cell", "_law_left_here", "_law_net", "_law_ways_here", "_law_lain_here", "_law_giver", "_law_hues", "_law_levels", "_law_lines", "_law_some", "_law_handed", "_law_told", "_law_way_here", "_law_k"]) (sc := defScope s_law) (by decide +kernel)) (fun _ _ _ _ _ => (pg_name (i := 14) sc_law.nd rfl (Or.inl rfl))) (fun _ _ _ _ _ => pts_nil) (fun _ _ _ _ _ => (pe_tup (pa_cons (pe_ix ix_list (pv 8) (pv 14) (fun _ _ => rfl)) (pa_cons (pe_meth (pv 6) T.K_Giver T.Me_Giver_own_tie (ok_Giver_own_tie T) (hr.mono (by decide)) T.b_Giver_own_tie .nil pass0 (pa_cons (pv 14) pa_nil)) (pa_cons (pe_ix ix_list (pv 7) (pv 14) (fun _ _ => rfl)) pa_nil))))))
      (pss_cons (ps_if (pt_cmpR op_notN (pe_call (ok_law_due T) (hr.mono (by decide)) (by rfl) T.g_law_due T.F_law_due.kp T.b_law_due .nil pass0 (pa_cons (pv 5) (pa_cons (pv 9) pa_nil))) pe_non (nomark _)) (pss_one (ps_ret pe_bl)) pss_nil)
      (pss_one (ps_for PassesOwn.never rfl (pi_list (pe_lst (pa_cons (pv 9) (pa_cons (pe_call (ok_law_bent T) (hr.mono (by decide)) (by rfl) T.g_law_bent T.F_law_bent.kp T.b_law_bent .nil pass0 (pa_cons (pv 2) (pa_cons (pv 9) (pa_cons (pe_ix ix_tup (pv 3) pe_int (fun _ _ => rfl)) pa_nil)))) (pa_cons (pe_call (ok_law_bent T) (hr.mono (by decide)) (by rfl) T.g_law_bent T.F_law_bent.kp T.b_law_bent .nil pass0 (pa_cons (pv 2) (pa_cons (pv 9) (pa_cons (pe_ix ix_tup (pv 3) pe_int (fun _ _ => rfl)) pa_nil)))) pa_nil))))) (pg_name (i := 10) sc_law.nd rfl (Or.inl rfl))
      (pss_cons (ps_set (i := 11) sc_law.nd rfl (Or.inl rfl) (pe_lst (pa_cons (pe_callTy q_listOf (by rfl) T.z_list (by decide +kernel) (pa_cons (pv 4) pa_nil)) (pa_cons (pe_callTy q_listOf (by rfl) T.z_list (by decide +kernel) (pa_cons (pv 10) pa_nil)) pa_nil))))
      (pss_cons (ps_set (i := 12) sc_law.nd rfl (Or.inl rfl) (pe_call (ok_shows T) (hr.mono (by decide)) (by rfl) T.g_shows T.F_shows.kp T.b_shows .nil pass0 (pa_cons (pv 3) (pa_cons (pe_ix ix_list (pv 11) pe_int (fun _ _ => rfl)) (pa_cons (pe_ix ix_list (pv 11) pe_int (fun _ _ => rfl)) pa_nil)))))
      (pss_one (ps_if (PW.pt (pw_or (pt_cmpR (op_neD hr.units) (pv 12) (pe_call (ok_law_due T) (hr.mono (by decide)) (by rfl) T.g_law_due T.F_law_due.kp T.b_law_due .nil pass0 (pa_cons (pv 5) (pa_cons (pv 10) pa_nil))) (nomark _)) (pw_or (pt_val (pe_callB q_isi (by rfl) T.z_isinstance (by decide +kernel) (pa_cons (pv 12) (pa_cons (pe_bltn (v := .ty "bool") (by rfl) T.z_bool (by decide +kernel) rfl) pa_nil)))) (pw_or1 (pt_cmpR (op_neD hr.units) (pv 11) (pe_lst (pa_cons (pv 4) (pa_cons (pv 10) pa_nil))) (nomark _)))))) (pss_one (ps_ret pe_bl)) pss_nil))))))))))))))))
      (pss_one (ps_ret pe_bl))), pure_law T ⟨a, ns, rfl, h⟩⟩

theorem all_mk {l : PySem.W.OpenLaw} {w : World} {K : PySem.W.Frag} {h : Heap} {mg : Str → Option Value} {fa : Addr} {f0 f1 f2 f3 f4 f5 f6 f7 f8 f9 f10 f11 f12 f13 f14 f15 f16 f17 f18 f19 f20 f21 f22 f23 f24 f25 f26 f27 f28 f29 f30 f31 f32 f33 f34 : Addr} (X : K.In h) (G : h.Ns mainGlobals mg) (hfa : mg "law" = some (.ref fa))
    {od0 an0 od1 an1 od2 an2 od3 an3 od4 an4 od5 an5 od6 an6 od7 an7 od8 an8 od9 an9 od10 an10 od11 an11 od12 an12 od13 an13 od14 an14 od15 an15 od16 an16 od17 an17 od18 an18 od19 an19 od20 an20 od21 an21 od22 an22 od23 an23 od24 an24 od25 an25 od26 an26 od27 an27 od28 an28 od29 an29 od30 an30 od31 an31 od32 an32 od33 an33 od34 an34 : Option Addr} {sl0 sl1 sl2 sl3 sl4 sl5 sl6 sl7 sl8 sl9 sl10 sl11 sl12 sl13 sl14 sl15 sl16 sl17 sl18 sl19 sl20 sl21 sl22 sl23 sl24 sl25 sl26 sl27 sl28 sl29 sl30 sl31 sl32 sl33 sl34 : Array (Option Value)} {oc0 kV0 dc0 pm0 cd0 ct0 oc1 kV1 dc1 pm1 cd1 ct1 oc2 kV2 dc2 pm2 cd2 ct2 oc3 kV3 dc3 pm3 cd3 ct3 oc4 kV4 dc4 pm4 cd4 ct4 oc5 kV5 dc5 pm5 cd5 ct5 oc6 kV6 dc6 pm6 cd6 ct6 oc7 kV7 dc7 pm7 cd7 ct7 oc8 kV8 dc8 pm8 cd8 ct8 oc9 kV9 dc9 pm9 cd9 ct9 oc10 kV10 dc10 pm10 cd10 ct10 oc11 kV11 dc11 pm11 cd11 ct11 oc12 kV12 dc12 pm12 cd12 ct12 oc13 kV13 dc13 pm13 cd13 ct13 oc14 kV14 dc14 pm14 cd14 ct14 oc15 kV15 dc15 pm15 cd15 ct15 oc16 kV16 dc16 pm16 cd16 ct16 oc17 kV17 dc17 pm17 cd17 ct17 oc18 kV18 dc18 pm18 cd18 ct18 oc19 kV19 dc19 pm19 cd19 ct19 oc20 kV20 dc20 pm20 cd20 ct20 oc21 kV21 dc21 pm21 cd21 ct21 oc22 kV22 dc22 pm22 cd22 ct22 oc23 kV23 dc23 pm23 cd23 ct23 oc24 kV24 dc24 pm24 cd24 ct24 oc25 kV25 dc25 pm25 cd25 ct25 oc26 kV26 dc26 pm26 cd26 ct26 oc27 kV27 dc27 pm27 cd27 ct27 oc28 kV28 dc28 pm28 cd28 ct28 oc29 kV29 dc29 pm29 cd29 ct29 oc30 kV30 dc30 pm30 cd30 ct30 oc31 kV31 dc31 pm31 cd31 ct31 oc32 kV32 dc32 pm32 cd32 ct32 oc33 kV33 dc33 pm33 cd33 ct33 oc34 kV34 dc34 pm34 cd34 ct34 : Value}
    {tk0 tk1 : Tok}
    (a0 : PySem.W.nsIn K mainGlobals "is_tree" = some (some (.ref f0))) (l0 : K.lookup f0 = some ⟨oc0, od0, .func (PySem.W.fnOf "is_tree" "is_tree" (defArgs s_is_tree) (defBody s_is_tree) (defScope s_is_tree) .none kV0 dc0 pm0 an0 cd0 ct0), sl0⟩) (c0 : PySem.W.codeIn K cd0 "is_tree" = true) (k0 : PySem.W.keepIn K (.ref f0) = true)
    (a1 : PySem.W.nsIn K mainGlobals "look_net" = some (some (.ref f1))) (l1 : K.lookup f1 = some ⟨oc1, od1, .func (PySem.W.fnOf "look_net" "look_net" (defArgs s_look_net) (defBody s_look_net) (defScope s_look_net) .none kV1 dc1 pm1 an1 cd1 ct1), sl1⟩) (c1 : PySem.W.codeIn K cd1 "look_net" = true) (k1 : PySem.W.keepIn K (.ref f1) = true)
    (a2 : PySem.W.nsIn K mainGlobals "must_be_kind" = some (some (.ref f2))) (l2 : K.lookup f2 = some ⟨oc2, od2, .func (PySem.W.fnOf "must_be_kind" "must_be_kind" (defArgs s_must_be_kind) (defBody s_must_be_kind) (defScope s_must_be_kind) .none kV2 dc2 pm2 an2 cd2 ct2), sl2⟩) (c2 : PySem.W.codeIn K cd2 "must_be_kind" = true) (k2 : PySem.W.keepIn K (.ref f2) = true)
    (a3 : PySem.W.nsIn K mainGlobals "places_of" = some (some (.ref f3))) (l3 : K.lookup f3 = some ⟨oc3, od3, .func (PySem.W.fnOf "places_of" "places_of" (defArgs s_places_of) (defBody s_places_of) (defScope s_places_of) .none kV3 dc3 pm3 an3 cd3 ct3), sl3⟩) (c3 : PySem.W.codeIn K cd3 "places_of" = true) (k3 : PySem.W.keepIn K (.ref f3) = true)
    (a4 : PySem.W.nsIn K mainGlobals "is_way" = some (some (.ref f4))) (l4 : K.lookup f4 = some ⟨oc4, od4, .func (PySem.W.fnOf "is_way" "is_way" (defArgs s_is_way) (defBody s_is_way) (defScope s_is_way) .none kV4 dc4 pm4 an4 cd4 ct4), sl4⟩) (c4 : PySem.W.codeIn K cd4 "is_way" = true) (k4 : PySem.W.keepIn K (.ref f4) = true)
    (a5 : PySem.W.nsIn K mainGlobals "ties_on" = some (some (.ref f5))) (l5 : K.lookup f5 = some ⟨oc5, od5, .func (PySem.W.fnOf "ties_on" "ties_on" (defArgs s_ties_on) (defBody s_ties_on) (defScope s_ties_on) .none kV5 dc5 pm5 an5 cd5 ct5), sl5⟩) (c5 : PySem.W.codeIn K cd5 "ties_on" = true) (k5 : PySem.W.keepIn K (.ref f5) = true)
    (a6 : PySem.W.nsIn K mainGlobals "must_be_ways" = some (some (.ref f6))) (l6 : K.lookup f6 = some ⟨oc6, od6, .func (PySem.W.fnOf "must_be_ways" "must_be_ways" (defArgs s_must_be_ways) (defBody s_must_be_ways) (defScope s_must_be_ways) .none kV6 dc6 pm6 an6 cd6 ct6), sl6⟩) (c6 : PySem.W.codeIn K cd6 "must_be_ways" = true) (k6 : PySem.W.keepIn K (.ref f6) = true)
    (a7 : PySem.W.nsIn K mainGlobals "hues_of" = some (some (.ref f7))) (l7 : K.lookup f7 = some ⟨oc7, od7, .func (PySem.W.fnOf "hues_of" "hues_of" (defArgs s_hues_of) (defBody s_hues_of) (defScope s_hues_of) .none kV7 dc7 pm7 an7 cd7 ct7), sl7⟩) (c7 : PySem.W.codeIn K cd7 "hues_of" = true) (k7 : PySem.W.keepIn K (.ref f7) = true)
    (a8 : PySem.W.nsIn K mainGlobals "meet" = some (some (.ref f8))) (l8 : K.lookup f8 = some ⟨oc8, od8, .func (PySem.W.fnOf "meet" "meet" (defArgs s_meet) (defBody s_meet) (defScope s_meet) .none kV8 dc8 pm8 an8 cd8 ct8), sl8⟩) (c8 : PySem.W.codeIn K cd8 "meet" = true) (k8 : PySem.W.keepIn K (.ref f8) = true)
    (a9 : PySem.W.nsIn K mainGlobals "many_on" = some (some (.ref f9))) (l9 : K.lookup f9 = some ⟨oc9, od9, .func (PySem.W.fnOf "many_on" "many_on" (defArgs s_many_on) (defBody s_many_on) (defScope s_many_on) .none kV9 dc9 pm9 an9 cd9 ct9), sl9⟩) (c9 : PySem.W.codeIn K cd9 "many_on" = true) (k9 : PySem.W.keepIn K (.ref f9) = true)
    (a10 : PySem.W.nsIn K mainGlobals "shown_at" = some (some (.ref f10))) (l10 : K.lookup f10 = some ⟨oc10, od10, .func (PySem.W.fnOf "shown_at" "shown_at" (defArgs s_shown_at) (defBody s_shown_at) (defScope s_shown_at) .none kV10 dc10 pm10 an10 cd10 ct10), sl10⟩) (c10 : PySem.W.codeIn K cd10 "shown_at" = true) (k10 : PySem.W.keepIn K (.ref f10) = true)
    (a11 : PySem.W.nsIn K mainGlobals "shows" = some (some (.ref f11))) (l11 : K.lookup f11 = some ⟨oc11, od11, .func (PySem.W.fnOf "shows" "shows" (defArgs s_shows) (defBody s_shows) (defScope s_shows) .none kV11 dc11 pm11 an11 cd11 ct11), sl11⟩) (c11 : PySem.W.codeIn K cd11 "shows" = true) (k11 : PySem.W.keepIn K (.ref f11) = true)
    (a12 : PySem.W.nsIn K mainGlobals "_law_mix" = some (some (.ref f12))) (l12 : K.lookup f12 = some ⟨oc12, od12, .func (PySem.W.fnOf "_law_mix" "_law_mix" (defArgs s_law_mix) (defBody s_law_mix) (defScope s_law_mix) .none kV12 dc12 pm12 an12 cd12 ct12), sl12⟩) (c12 : PySem.W.codeIn K cd12 "_law_mix" = true) (k12 : PySem.W.keepIn K (.ref f12) = true)
    (a13 : PySem.W.nsIn K mainGlobals "_law_cell_at" = some (some (.ref f13))) (l13 : K.lookup f13 = some ⟨oc13, od13, .func (PySem.W.fnOf "_law_cell_at" "_law_cell_at" (defArgs s_law_cell_at) (defBody s_law_cell_at) (defScope s_law_cell_at) .none kV13 dc13 pm13 an13 cd13 ct13), sl13⟩) (c13 : PySem.W.codeIn K cd13 "_law_cell_at" = true) (k13 : PySem.W.keepIn K (.ref f13) = true)
    (a14 : PySem.W.nsIn K mainGlobals "_law_left" = some (some (.ref f14))) (l14 : K.lookup f14 = some ⟨oc14, od14, .func (PySem.W.fnOf "_law_left" "_law_left" (defArgs s_law_left) (defBody s_law_left) (defScope s_law_left) .none kV14 dc14 pm14 an14 cd14 ct14), sl14⟩) (c14 : PySem.W.codeIn K cd14 "_law_left" = true) (k14 : PySem.W.keepIn K (.ref f14) = true)
    (a15 : PySem.W.nsIn K mainGlobals "_law_draw" = some (some (.ref f15))) (l15 : K.lookup f15 = some ⟨oc15, od15, .func (PySem.W.fnOf "_law_draw" "_law_draw" (defArgs s_law_draw) (defBody s_law_draw) (defScope s_law_draw) .none kV15 dc15 pm15 an15 cd15 ct15), sl15⟩) (c15 : PySem.W.codeIn K cd15 "_law_draw" = true) (k15 : PySem.W.keepIn K (.ref f15) = true)
    (a16 : PySem.W.nsIn K mainGlobals "_law_line" = some (some (.ref f16))) (l16 : K.lookup f16 = some ⟨oc16, od16, .func (PySem.W.fnOf "_law_line" "_law_line" (defArgs s_law_line) (defBody s_law_line) (defScope s_law_line) .none kV16 dc16 pm16 an16 cd16 ct16), sl16⟩) (c16 : PySem.W.codeIn K cd16 "_law_line" = true) (k16 : PySem.W.keepIn K (.ref f16) = true)
    (a17 : PySem.W.nsIn K mainGlobals "_law_way" = some (some (.ref f17))) (l17 : K.lookup f17 = some ⟨oc17, od17, .func (PySem.W.fnOf "_law_way" "_law_way" (defArgs s_law_way) (defBody s_law_way) (defScope s_law_way) .none kV17 dc17 pm17 an17 cd17 ct17), sl17⟩) (c17 : PySem.W.codeIn K cd17 "_law_way" = true) (k17 : PySem.W.keepIn K (.ref f17) = true)
    (a18 : PySem.W.nsIn K mainGlobals "_law_short_way" = some (some (.ref f18))) (l18 : K.lookup f18 = some ⟨oc18, od18, .func (PySem.W.fnOf "_law_short_way" "_law_short_way" (defArgs s_law_short_way) (defBody s_law_short_way) (defScope s_law_short_way) .none kV18 dc18 pm18 an18 cd18 ct18), sl18⟩) (c18 : PySem.W.codeIn K cd18 "_law_short_way" = true) (k18 : PySem.W.keepIn K (.ref f18) = true)
    (a19 : PySem.W.nsIn K mainGlobals "_law_ways" = some (some (.ref f19))) (l19 : K.lookup f19 = some ⟨oc19, od19, .func (PySem.W.fnOf "_law_ways" "_law_ways" (defArgs s_law_ways) (defBody s_law_ways) (defScope s_law_ways) .none kV19 dc19 pm19 an19 cd19 ct19), sl19⟩) (c19 : PySem.W.codeIn K cd19 "_law_ways" = true) (k19 : PySem.W.keepIn K (.ref f19) = true)
    (a20 : PySem.W.nsIn K mainGlobals "_law_lain" = some (some (.ref f20))) (l20 : K.lookup f20 = some ⟨oc20, od20, .func (PySem.W.fnOf "_law_lain" "_law_lain" (defArgs s_law_lain) (defBody s_law_lain) (defScope s_law_lain) .none kV20 dc20 pm20 an20 cd20 ct20), sl20⟩) (c20 : PySem.W.codeIn K cd20 "_law_lain" = true) (k20 : PySem.W.keepIn K (.ref f20) = true)
    (a21 : PySem.W.nsIn K mainGlobals "_law_meet" = some (some (.ref f21))) (l21 : K.lookup f21 = some ⟨oc21, od21, .func (PySem.W.fnOf "_law_meet" "_law_meet" (defArgs s_law_meet) (defBody s_law_meet) (defScope s_law_meet) .none kV21 dc21 pm21 an21 cd21 ct21), sl21⟩) (c21 : PySem.W.codeIn K cd21 "_law_meet" = true) (k21 : PySem.W.keepIn K (.ref f21) = true)
    (a22 : PySem.W.nsIn K mainGlobals "_law_on" = some (some (.ref f22))) (l22 : K.lookup f22 = some ⟨oc22, od22, .func (PySem.W.fnOf "_law_on" "_law_on" (defArgs s_law_on) (defBody s_law_on) (defScope s_law_on) .none kV22 dc22 pm22 an22 cd22 ct22), sl22⟩) (c22 : PySem.W.codeIn K cd22 "_law_on" = true) (k22 : PySem.W.keepIn K (.ref f22) = true)
    (a23 : PySem.W.nsIn K mainGlobals "_law_of_level" = some (some (.ref f23))) (l23 : K.lookup f23 = some ⟨oc23, od23, .func (PySem.W.fnOf "_law_of_level" "_law_of_level" (defArgs s_law_of_level) (defBody s_law_of_level) (defScope s_law_of_level) .none kV23 dc23 pm23 an23 cd23 ct23), sl23⟩) (c23 : PySem.W.codeIn K cd23 "_law_of_level" = true) (k23 : PySem.W.keepIn K (.ref f23) = true)
    (a24 : PySem.W.nsIn K mainGlobals "_law_right_at" = some (some (.ref f24))) (l24 : K.lookup f24 = some ⟨oc24, od24, .func (PySem.W.fnOf "_law_right_at" "_law_right_at" (defArgs s_law_right_at) (defBody s_law_right_at) (defScope s_law_right_at) .none kV24 dc24 pm24 an24 cd24 ct24), sl24⟩) (c24 : PySem.W.codeIn K cd24 "_law_right_at" = true) (k24 : PySem.W.keepIn K (.ref f24) = true)
    (a25 : PySem.W.nsIn K mainGlobals "_law_due" = some (some (.ref f25))) (l25 : K.lookup f25 = some ⟨oc25, od25, .func (PySem.W.fnOf "_law_due" "_law_due" (defArgs s_law_due) (defBody s_law_due) (defScope s_law_due) .none kV25 dc25 pm25 an25 cd25 ct25), sl25⟩) (c25 : PySem.W.codeIn K cd25 "_law_due" = true) (k25 : PySem.W.keepIn K (.ref f25) = true)
    (a26 : PySem.W.nsIn K mainGlobals "_law_bent" = some (some (.ref f26))) (l26 : K.lookup f26 = some ⟨oc26, od26, .func (PySem.W.fnOf "_law_bent" "_law_bent" (defArgs s_law_bent) (defBody s_law_bent) (defScope s_law_bent) .none kV26 dc26 pm26 an26 cd26 ct26), sl26⟩) (c26 : PySem.W.codeIn K cd26 "_law_bent" = true) (k26 : PySem.W.keepIn K (.ref f26) = true)
    (a27 : PySem.W.nsIn K mainGlobals "law" = some (some (.ref f27))) (l27 : K.lookup f27 = some ⟨oc27, od27, .func (PySem.W.fnOf "law" "law" (defArgs s_law) (defBody s_law) (defScope s_law) .none kV27 dc27 pm27 an27 cd27 ct27), sl27⟩) (c27 : PySem.W.codeIn K cd27 "law" = true) (k27 : PySem.W.keepIn K (.ref f27) = true)
    {cm28 : Addr} (a28 : PySem.W.nsIn K mainGlobals "Giver" = some (some (.ref cm28))) (m28 : PySem.W.makesIn K cm28 = true) (i28 : PySem.W.findIn K (.ref cm28) "__init__" = some (some (.ref f28))) (n28 : PySem.W.isFn K (.ref f28) = true) (p28 : PySem.W.keepIn K (.ref cm28) = true) (l28 : K.lookup f28 = some ⟨oc28, od28, .func (PySem.W.fnOf "__init__" "Giver.__init__" (defArgs s_Giver_init) (defBody s_Giver_init) (defScope s_Giver_init) .none kV28 dc28 pm28 an28 cd28 ct28), sl28⟩) (c28 : PySem.W.codeIn K cd28 "Giver.__init__" = true) (k28 : PySem.W.keepIn K (.ref f28) = true)
    (pg28 : PySem.W.plainGet K cm28 Str.empty = true) (hd28 : PySem.W.hasDictIn K cm28 = true) (po28 : PySem.W.plainOver K cm28 = true) (sb28 : PySem.W.findIn K (.ref cm28) "__setattr__" = some (some (.builtin "object.__setattr__")))
    (nn28_0 : PySem.W.findIn K (.ref cm28) "net" = some none)
    (nn28_1 : PySem.W.findIn K (.ref cm28) "come" = some none)
    (nn28_2 : PySem.W.findIn K (.ref cm28) "lain" = some none)
    (nn28_3 : PySem.W.findIn K (.ref cm28) "given" = some none)
    (nn28_4 : PySem.W.findIn K (.ref cm28) "level" = some none)
    (nn28_5 : PySem.W.findIn K (.ref cm28) "own" = some none)
    (nn28_6 : PySem.W.findIn K (.ref cm28) "upto" = some none)
    (i29 : PySem.W.findIn K (.ref cm28) "level_for" = some (some (.ref f29))) (n29 : PySem.W.isFn K (.ref f29) = true) (l29 : K.lookup f29 = some ⟨oc29, od29, .func (PySem.W.fnOf "level_for" "Giver.level_for" (defArgs s_Giver_level_for) (defBody s_Giver_level_for) (defScope s_Giver_level_for) .none kV29 dc29 pm29 an29 cd29 ct29), sl29⟩) (c29 : PySem.W.codeIn K cd29 "Giver.level_for" = true) (k29 : PySem.W.keepIn K (.ref f29) = true)
    (i30 : PySem.W.findIn K (.ref cm28) "own_for" = some (some (.ref f30))) (n30 : PySem.W.isFn K (.ref f30) = true) (l30 : K.lookup f30 = some ⟨oc30, od30, .func (PySem.W.fnOf "own_for" "Giver.own_for" (defArgs s_Giver_own_for) (defBody s_Giver_own_for) (defScope s_Giver_own_for) .none kV30 dc30 pm30 an30 cd30 ct30), sl30⟩) (c30 : PySem.W.codeIn K cd30 "Giver.own_for" = true) (k30 : PySem.W.keepIn K (.ref f30) = true)
    (i31 : PySem.W.findIn K (.ref cm28) "counted_in" = some (some (.ref f31))) (n31 : PySem.W.isFn K (.ref f31) = true) (l31 : K.lookup f31 = some ⟨oc31, od31, .func (PySem.W.fnOf "counted_in" "Giver.counted_in" (defArgs s_Giver_counted_in) (defBody s_Giver_counted_in) (defScope s_Giver_counted_in) .none kV31 dc31 pm31 an31 cd31 ct31), sl31⟩) (c31 : PySem.W.codeIn K cd31 "Giver.counted_in" = true) (k31 : PySem.W.keepIn K (.ref f31) = true)
    (i32 : PySem.W.findIn K (.ref cm28) "put" = some (some (.ref f32))) (n32 : PySem.W.isFn K (.ref f32) = true) (l32 : K.lookup f32 = some ⟨oc32, od32, .func (PySem.W.fnOf "put" "Giver.put" (defArgs s_Giver_put) (defBody s_Giver_put) (defScope s_Giver_put) .none kV32 dc32 pm32 an32 cd32 ct32), sl32⟩) (c32 : PySem.W.codeIn K cd32 "Giver.put" = true) (k32 : PySem.W.keepIn K (.ref f32) = true)
    (i33 : PySem.W.findIn K (.ref cm28) "levels" = some (some (.ref f33))) (n33 : PySem.W.isFn K (.ref f33) = true) (l33 : K.lookup f33 = some ⟨oc33, od33, .func (PySem.W.fnOf "levels" "Giver.levels" (defArgs s_Giver_levels) (defBody s_Giver_levels) (defScope s_Giver_levels) .none kV33 dc33 pm33 an33 cd33 ct33), sl33⟩) (c33 : PySem.W.codeIn K cd33 "Giver.levels" = true) (k33 : PySem.W.keepIn K (.ref f33) = true)
    (i34 : PySem.W.findIn K (.ref cm28) "own_tie" = some (some (.ref f34))) (n34 : PySem.W.isFn K (.ref f34) = true) (l34 : K.lookup f34 = some ⟨oc34, od34, .func (PySem.W.fnOf "own_tie" "Giver.own_tie" (defArgs s_Giver_own_tie) (defBody s_Giver_own_tie) (defScope s_Giver_own_tie) .none kV34 dc34 pm34 an34 cd34 ct34), sl34⟩) (c34 : PySem.W.codeIn K cd34 "Giver.own_tie" = true) (k34 : PySem.W.keepIn K (.ref f34) = true)
    (e0 : PySem.W.nsIn K mainGlobals "MOST_PLACES" = some (some (.int 60 tk0)))
    (e1 : PySem.W.nsIn K mainGlobals "MOST_WAYS" = some (some (.int 40 tk1)))
    (z0 : PySem.W.nsIn K mainGlobals "bool" = some none)
    (z1 : PySem.W.nsIn K mainGlobals "int" = some none)
    (z2 : PySem.W.nsIn K mainGlobals "isinstance" = some none)
    (z3 : PySem.W.nsIn K mainGlobals "len" = some none)
    (z4 : PySem.W.nsIn K mainGlobals "list" = some none)
    (z5 : PySem.W.nsIn K mainGlobals "max" = some none)
    (z6 : PySem.W.nsIn K mainGlobals "min" = some none)
    (z7 : PySem.W.nsIn K mainGlobals "range" = some none)
    (z8 : PySem.W.nsIn K mainGlobals "sorted" = some none)
    : ∃ fd : FuncData, (∀ (s : Shared) (v : Value), BindsTo s fd ⟨[v], []⟩ [("_law_script", v)]) ∧ ∀ base : Heap, K.In base → base.Ns mainGlobals mg → FnOk l.prog w K mg base CX0 6 fa fd ["_law_script"] (sp_law K) := by
  have e := hfa.symm.trans (PySem.W.mg_of X G a27)
  cases e
  have F0 := fun_mk (st := s_is_tree) l0 c0 k0
  have b0 := F0.binds (ps := ["parents"]) fun _ _ _ _ _ _ us hl => match us, hl with | [_], _ => rfl
  have F1 := fun_mk (st := s_look_net) l1 c1 k1
  have b1 := F1.binds (ps := ["net"]) fun _ _ _ _ _ _ us hl => match us, hl with | [_], _ => rfl
  have F2 := fun_mk (st := s_must_be_kind) l2 c2 k2
  have b2 := F2.binds (ps := ["net", "kind"]) fun _ _ _ _ _ _ us hl => match us, hl with | [_, _], _ => rfl
  have F3 := fun_mk (st := s_places_of) l3 c3 k3
  have b3 := F3.binds (ps := ["net"]) fun _ _ _ _ _ _ us hl => match us, hl with | [_], _ => rfl
  have F4 := fun_mk (st := s_is_way) l4 c4 k4
  have b4 := F4.binds (ps := ["net", "way"]) fun _ _ _ _ _ _ us hl => match us, hl with | [_, _], _ => rfl
  have F5 := fun_mk (st := s_ties_on) l5 c5 k5
  have b5 := F5.binds (ps := ["net", "way"]) fun _ _ _ _ _ _ us hl => match us, hl with | [_, _], _ => rfl
  have F6 := fun_mk (st := s_must_be_ways) l6 c6 k6
  have b6 := F6.binds (ps := ["net", "ways"]) fun _ _ _ _ _ _ us hl => match us, hl with | [_, _], _ => rfl
  have F7 := fun_mk (st := s_hues_of) l7 c7 k7
  have b7 := F7.binds (ps := ["level"]) fun _ _ _ _ _ _ us hl => match us, hl with | [_], _ => rfl
  have F8 := fun_mk (st := s_meet) l8 c8 k8
  have b8 := F8.binds (ps := ["one", "other"]) fun _ _ _ _ _ _ us hl => match us, hl with | [_, _], _ => rfl
  have F9 := fun_mk (st := s_many_on) l9 c9 k9
  have b9 := F9.binds (ps := ["lain", "levels", "tie", "least", "most"]) fun _ _ _ _ _ _ us hl => match us, hl with | [_, _, _, _, _], _ => rfl
  have F10 := fun_mk (st := s_shown_at) l10 c10 k10
  have b10 := F10.binds (ps := ["lain", "lines", "k"]) fun _ _ _ _ _ _ us hl => match us, hl with | [_, _, _], _ => rfl
  have F11 := fun_mk (st := s_shows) l11 c11 k11
  have b11 := F11.binds (ps := ["net", "ways", "lines"]) fun _ _ _ _ _ _ us hl => match us, hl with | [_, _, _], _ => rfl
  have F12 := fun_mk (st := s_law_mix) l12 c12 k12
  have b12 := F12.binds (ps := ["_law_number", "_law_k"]) fun _ _ _ _ _ _ us hl => match us, hl with | [_, _], _ => rfl
  have F13 := fun_mk (st := s_law_cell_at) l13 c13 k13
  have b13 := F13.binds (ps := ["_law_script", "_law_k"]) fun _ _ _ _ _ _ us hl => match us, hl with | [_, _], _ => rfl
  have F14 := fun_mk (st := s_law_left) l14 c14 k14
  have b14 := F14.binds (ps := ["_law_script", "_law_k"]) fun _ _ _ _ _ _ us hl => match us, hl with | [_, _], _ => rfl
  have F15 := fun_mk (st := s_law_draw) l15 c15 k15
  have b15 := F15.binds (ps := ["_law_left_here", "_law_base"]) fun _ _ _ _ _ _ us hl => match us, hl with | [_, _], _ => rfl
  have F16 := fun_mk (st := s_law_line) l16 c16 k16
  have b16 := F16.binds (ps := ["_law_left_here"]) fun _ _ _ _ _ _ us hl => match us, hl with | [_], _ => rfl
  have F17 := fun_mk (st := s_law_way) l17 c17 k17
  have b17 := F17.binds (ps := ["_law_left_here", "_law_many"]) fun _ _ _ _ _ _ us hl => match us, hl with | [_, _], _ => rfl
  have F18 := fun_mk (st := s_law_short_way) l18 c18 k18
  have b18 := F18.binds (ps := ["_law_left_here", "_law_many"]) fun _ _ _ _ _ _ us hl => match us, hl with | [_, _], _ => rfl
  have F19 := fun_mk (st := s_law_ways) l19 c19 k19
  have b19 := F19.binds (ps := ["_law_left_here", "_law_many"]) fun _ _ _ _ _ _ us hl => match us, hl with | [_, _], _ => rfl
  have F20 := fun_mk (st := s_law_lain) l20 c20 k20
  have b20 := F20.binds (ps := ["_law_ways_here"]) fun _ _ _ _ _ _ us hl => match us, hl with | [_], _ => rfl
  have F21 := fun_mk (st := s_law_meet) l21 c21 k21
  have b21 := F21.binds (ps := ["_law_one", "_law_other"]) fun _ _ _ _ _ _ us hl => match us, hl with | [_, _], _ => rfl
  have F22 := fun_mk (st := s_law_on) l22 c22 k22
  have b22 := F22.binds (ps := ["_law_ties", "_law_tie"]) fun _ _ _ _ _ _ us hl => match us, hl with | [_, _], _ => rfl
  have F23 := fun_mk (st := s_law_of_level) l23 c23 k23
  have b23 := F23.binds (ps := ["_law_hue", "_law_level"]) fun _ _ _ _ _ _ us hl => match us, hl with | [_, _], _ => rfl
  have F24 := fun_mk (st := s_law_right_at) l24 c24 k24
  have b24 := F24.binds (ps := ["_law_lain_here", "_law_lines", "_law_k"]) fun _ _ _ _ _ _ us hl => match us, hl with | [_, _, _], _ => rfl
  have F25 := fun_mk (st := s_law_due) l25 c25 k25
  have b25 := F25.binds (ps := ["_law_lain_here", "_law_lines"]) fun _ _ _ _ _ _ us hl => match us, hl with | [_, _], _ => rfl
  have F26 := fun_mk (st := s_law_bent) l26 c26 k26
  have b26 := F26.binds (ps := ["_law_left_here", "_law_lines", "_law_many"]) fun _ _ _ _ _ _ us hl => match us, hl with | [_, _, _], _ => rfl
  have F27 := fun_mk (st := s_law) l27 c27 k27
  have b27 := F27.binds (ps := ["_law_script"]) fun _ _ _ _ _ _ us hl => match us, hl with | [_], _ => rfl
  have F28 := fun_mk (st := s_Giver_init) l28 c28 k28
  have b28 := F28.binds (ps := ["self", "net"]) fun _ _ _ _ _ _ us hl => match us, hl with | [_, _], _ => rfl
  have F29 := fun_mk (st := s_Giver_level_for) l29 c29 k29
  have b29 := F29.binds (ps := ["self", "ties"]) fun _ _ _ _ _ _ us hl => match us, hl with | [_, _], _ => rfl
  have F30 := fun_mk (st := s_Giver_own_for) l30 c30 k30
  have b30 := F30.binds (ps := ["self", "ties", "i"]) fun _ _ _ _ _ _ us hl => match us, hl with | [_, _, _], _ => rfl
  have F31 := fun_mk (st := s_Giver_counted_in) l31 c31 k31
  have b31 := F31.binds (ps := ["self", "ties", "i"]) fun _ _ _ _ _ _ us hl => match us, hl with | [_, _, _], _ => rfl
  have F32 := fun_mk (st := s_Giver_put) l32 c32 k32
  have b32 := F32.binds (ps := ["self", "way"]) fun _ _ _ _ _ _ us hl => match us, hl with | [_, _], _ => rfl
  have F33 := fun_mk (st := s_Giver_levels) l33 c33 k33
  have b33 := F33.binds (ps := ["self"]) fun _ _ _ _ _ _ us hl => match us, hl with | [_], _ => rfl
  have F34 := fun_mk (st := s_Giver_own_tie) l34 c34 k34
  have b34 := F34.binds (ps := ["self", "number"]) fun _ _ _ _ _ _ us hl => match us, hl with | [_, _], _ => rfl
  have T : Txt K mg ⟨cm28, f0, _, f1, _, f2, _, f3, _, f4, _, f5, _, f6, _, f7, _, f8, _, f9, _, f10, _, f11, _, f12, _, f13, _, f14, _, f15, _, f16, _, f17, _, f18, _, f19, _, f20, _, f21, _, f22, _, f23, _, f24, _, f25, _, f26, _, fa, _, f28, _, f29, _, f30, _, f31, _, f32, _, f33, _, f34, _⟩ :=
    ⟨PySem.W.mg_of X G a0, F0, b0, PySem.W.mg_of X G a1, F1, b1, PySem.W.mg_of X G a2, F2, b2, PySem.W.mg_of X G a3, F3, b3, PySem.W.mg_of X G a4, F4, b4, PySem.W.mg_of X G a5, F5, b5, PySem.W.mg_of X G a6, F6, b6, PySem.W.mg_of X G a7, F7, b7, PySem.W.mg_of X G a8, F8, b8, PySem.W.mg_of X G a9, F9, b9, PySem.W.mg_of X G a10, F10, b10, PySem.W.mg_of X G a11, F11, b11, PySem.W.mg_of X G a12, F12, b12, PySem.W.mg_of X G a13, F13, b13, PySem.W.mg_of X G a14, F14, b14, PySem.W.mg_of X G a15, F15, b15, PySem.W.mg_of X G a16, F16, b16, PySem.W.mg_of X G a17, F17, b17, PySem.W.mg_of X G a18, F18, b18, PySem.W.mg_of X G a19, F19, b19, PySem.W.mg_of X G a20, F20, b20, PySem.W.mg_of X G a21, F21, b21, PySem.W.mg_of X G a22, F22, b22, PySem.W.mg_of X G a23, F23, b23, PySem.W.mg_of X G a24, F24, b24, PySem.W.mg_of X G a25, F25, b25, PySem.W.mg_of X G a26, F26, b26, PySem.W.mg_of X G a27, F27, b27, PySem.W.mg_of X G a28, ⟨m28, i28, n28, p28⟩, F28, ⟨pg28, hd28, po28, sb28⟩, nn28_0, nn28_1, nn28_2, nn28_3, nn28_4, nn28_5, nn28_6, b28, ⟨i29, n29, k29⟩, F29, b29, ⟨i30, n30, k30⟩, F30, b30, ⟨i31, n31, k31⟩, F31, b31, ⟨i32, n32, k32⟩, F32, b32, ⟨i33, n33, k33⟩, F33, b33, ⟨i34, n34, k34⟩, F34, b34, tok_mk (PySem.W.mg_of X G e0), tok_mk (PySem.W.mg_of X G e1), PySem.W.mg_none_of X G z0, PySem.W.mg_none_of X G z1, PySem.W.mg_none_of X G z2, PySem.W.mg_none_of X G z3, PySem.W.mg_none_of X G z4, PySem.W.mg_none_of X G z5, PySem.W.mg_none_of X G z6, PySem.W.mg_none_of X G z7, PySem.W.mg_none_of X G z8⟩
  exact ⟨_, fun s v => .of_eq rfl, fun base _ _ => ok_law T⟩
end Pf
open PySem PySem.W PyProof.Rows
set_option maxHeartbeats 0 in
theorem PySem.Challenge.cw_tiehues_k14_shown_by_levels_holds : PySem.Challenge.rw_tiehues_k14_shown_by_levels.Holds := by
  w_on; o_law; k_head; (case hw => w_witness2)
  k_fill
  refine L2.walk_ofK (l := PySem.Challenge.rw_tiehues_k14_shown_by_levels) (n := 63) (k := 6) (x := "_law_script") (CX := L2.CX0) (sp := Pf.sp_law) rfl (by decide) rfl ⟨rfl, by decide, by decide⟩ (fun w h Y => PySem.W.kIn_of Y) ?F (fun _ _ a ns hl _ hS => ⟨a, ns, rfl, hS, hl, fun _ => rfl⟩) (fun _ _ _ _ h => h)
  case F =>
    intro w mg fa h KX G hmg
    refine' Pf.all_mk KX G hmg ?a0 ?l0 ?c0 ?k0 ?a1 ?l1 ?c1 ?k1 ?a2 ?l2 ?c2 ?k2 ?a3 ?l3 ?c3 ?k3 ?a4 ?l4 ?c4 ?k4 ?a5 ?l5 ?c5 ?k5 ?a6 ?l6 ?c6 ?k6 ?a7 ?l7 ?c7 ?k7 ?a8 ?l8 ?c8 ?k8 ?a9 ?l9 ?c9 ?k9 ?a10 ?l10 ?c10 ?k10 ?a11 ?l11 ?c11 ?k11 ?a12 ?l12 ?c12 ?k12 ?a13 ?l13 ?c13 ?k13 ?a14 ?l14 ?c14 ?k14 ?a15 ?l15 ?c15 ?k15 ?a16 ?l16 ?c16 ?k16 ?a17 ?l17 ?c17 ?k17 ?a18 ?l18 ?c18 ?k18 ?a19 ?l19 ?c19 ?k19 ?a20 ?l20 ?c20 ?k20 ?a21 ?l21 ?c21 ?k21 ?a22 ?l22 ?c22 ?k22 ?a23 ?l23 ?c23 ?k23 ?a24 ?l24 ?c24 ?k24 ?a25 ?l25 ?c25 ?k25 ?a26 ?l26 ?c26 ?k26 ?a27 ?l27 ?c27 ?k27 ?a28 ?m28 ?i28 ?n28 ?p28 ?l28 ?c28 ?k28 ?pg28 ?hd28 ?po28 ?sb28 ?nn28_0 ?nn28_1 ?nn28_2 ?nn28_3 ?nn28_4 ?nn28_5 ?nn28_6 ?i29 ?n29 ?l29 ?c29 ?k29 ?i30 ?n30 ?l30 ?c30 ?k30 ?i31 ?n31 ?l31 ?c31 ?k31 ?i32 ?n32 ?l32 ?c32 ?k32 ?i33 ?n33 ?l33 ?c33 ?k33 ?i34 ?n34 ?l34 ?c34 ?k34 ?e0 ?e1 ?z0 ?z1 ?z2 ?z3 ?z4 ?z5 ?z6 ?z7 ?z8
    (case a0 => k_is); (case l0 => k_is); (case c0 => k_is); (case k0 => k_is); (case a1 => k_is); (case l1 => k_is); (case c1 => k_is); (case k1 => k_is); (case a2 => k_is); (case l2 => k_is); (case c2 => k_is); (case k2 => k_is); (case a3 => k_is); (case l3 => k_is); (case c3 => k_is); (case k3 => k_is); (case a4 => k_is); (case l4 => k_is); (case c4 => k_is); (case k4 => k_is); (case a5 => k_is); (case l5 => k_is); (case c5 => k_is); (case k5 => k_is); (case a6 => k_is); (case l6 => k_is); (case c6 => k_is); (case k6 => k_is); (case a7 => k_is); (case l7 => k_is); (case c7 => k_is); (case k7 => k_is); (case a8 => k_is); (case l8 => k_is); (case c8 => k_is); (case k8 => k_is); (case a9 => k_is); (case l9 => k_is); (case c9 => k_is); (case k9 => k_is); (case a10 => k_is); (case l10 => k_is); (case c10 => k_is); (case k10 => k_is); (case a11 => k_is); (case l11 => k_is); (case c11 => k_is); (case k11 => k_is); (case a12 => k_is); (case l12 => k_is); (case c12 => k_is); (case k12 => k_is); (case a13 => k_is); (case l13 => k_is); (case c13 => k_is); (case k13 => k_is); (case a14 => k_is); (case l14 => k_is); (case c14 => k_is); (case k14 => k_is); (case a15 => k_is); (case l15 => k_is); (case c15 => k_is); (case k15 => k_is); (case a16 => k_is); (case l16 => k_is); (case c16 => k_is); (case k16 => k_is); (case a17 => k_is); (case l17 => k_is); (case c17 => k_is); (case k17 => k_is); (case a18 => k_is); (case l18 => k_is); (case c18 => k_is); (case k18 => k_is); (case a19 => k_is); (case l19 => k_is); (case c19 => k_is); (case k19 => k_is); (case a20 => k_is); (case l20 => k_is); (case c20 => k_is); (case k20 => k_is); (case a21 => k_is); (case l21 => k_is); (case c21 => k_is); (case k21 => k_is); (case a22 => k_is); (case l22 => k_is); (case c22 => k_is); (case k22 => k_is); (case a23 => k_is); (case l23 => k_is); (case c23 => k_is); (case k23 => k_is); (case a24 => k_is); (case l24 => k_is); (case c24 => k_is); (case k24 => k_is); (case a25 => k_is); (case l25 => k_is); (case c25 => k_is); (case k25 => k_is); (case a26 => k_is); (case l26 => k_is); (case c26 => k_is); (case k26 => k_is); (case a27 => k_is); (case l27 => k_is); (case c27 => k_is); (case k27 => k_is); (case a28 => k_is); (case m28 => first | k_is | kernel_rfl); (case i28 => k_is); (case n28 => first | k_is | kernel_rfl); (case p28 => k_is); (case l28 => k_is); (case c28 => k_is); (case k28 => k_is); (case pg28 => first | k_is | kernel_rfl); (case hd28 => first | k_is | kernel_rfl); (case po28 => first | k_is | kernel_rfl); (case sb28 => first | k_is | kernel_rfl); (case nn28_0 => first | k_is | kernel_rfl); (case nn28_1 => first | k_is | kernel_rfl); (case nn28_2 => first | k_is | kernel_rfl); (case nn28_3 => first | k_is | kernel_rfl); (case nn28_4 => first | k_is | kernel_rfl); (case nn28_5 => first | k_is | kernel_rfl); (case nn28_6 => first | k_is | kernel_rfl); (case i29 => k_is); (case n29 => first | k_is | kernel_rfl); (case l29 => k_is); (case c29 => k_is); (case k29 => k_is); (case i30 => k_is); (case n30 => first | k_is | kernel_rfl); (case l30 => k_is); (case c30 => k_is); (case k30 => k_is); (case i31 => k_is); (case n31 => first | k_is | kernel_rfl); (case l31 => k_is); (case c31 => k_is); (case k31 => k_is); (case i32 => k_is); (case n32 => first | k_is | kernel_rfl); (case l32 => k_is); (case c32 => k_is); (case k32 => k_is); (case i33 => k_is); (case n33 => first | k_is | kernel_rfl); (case l33 => k_is); (case c33 => k_is); (case k33 => k_is); (case i34 => k_is); (case n34 => first | k_is | kernel_rfl); (case l34 => k_is); (case c34 => k_is); (case k34 => k_is); (case e0 => k_is); (case e1 => k_is); (case z0 => k_is); (case z1 => k_is); (case z2 => k_is); (case z3 => k_is); (case z4 => k_is); (case z5 => k_is); (case z6 => k_is); (case z7 => k_is); (case z8 => k_is)
