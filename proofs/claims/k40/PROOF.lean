import PyProof.Rows.All
import Wide.All
import OpenK.AllK
import Wide.FinOn
import HandS.ForMost
import HandS.NoneIn
import HandS.Conv
import HandS.IsInst
import HandS.Wide
import HandS.SortInts
import HandS.Walk
import KE.DataMinMax
import HandS.ForExc
import HandS.ExcInit
import KE.KExcIs
import HandS.ExcField
import HandS.ExcIs
import PySem.Challenge.RW_tiehues_k40_crossings_at_places
set_option Elab.async false
set_option linter.all false
set_option maxRecDepth 100000
set_option maxHeartbeats 4000000
set_option synthInstance.maxHeartbeats 0
set_option synthInstance.maxSize 1000000
namespace Cm
open PySem PySem.Spec PyProof.Rows L2

/-! ### named readings -/
def rLen (K : PySem.W.Frag) : List V → Hp → VK → Prop := fun xs H Q => ∃ p ys, xs = [.ref p] ∧ (SqL K H p ys ∨ SqT K H p ys) ∧ Q (.int ys.length) H
theorem q_len {X : Cx} : CallR X (.builtin "len") (rLen X.K) := call_len_seq
def rListOf (K : PySem.W.Frag) : List V → Hp → VK → Prop := fun xs H Q => ∃ p ys, xs = [.ref p] ∧ (SqL K H p ys ∨ SqT K H p ys) ∧ ∀ l, H l = none → Q (.ref l) (upd H l (.lst ys))
theorem q_listOf {X : Cx} : CallR X (.type "list") (rListOf X.K) := call_list_of
def rMax2 : List V → Hp → VK → Prop := fun xs H Q => ∃ i j, xs = [.int i, .int j] ∧ Q (.int (if j > i then j else i)) H
theorem q_max2 {X : Cx} (hc : X.calm = true) : CallR X (.builtin "max") rMax2 := call_max2 hc
def rMin2 : List V → Hp → VK → Prop := fun xs H Q => ∃ i j, xs = [.int i, .int j] ∧ Q (.int (if j < i then j else i)) H
theorem q_min2 {X : Cx} (hc : X.calm = true) : CallR X (.builtin "min") rMin2 := call_min2 hc
theorem q_isi {X : Cx} : CallR X (.builtin "isinstance") (rIsi X.K) := call_isi
def rIntOf : List V → Hp → VK → Prop := fun xs H Q => (∃ i, xs = [.int i] ∧ Q (.int i) H) ∨ ∃ k, xs = [.bl k] ∧ Q (.int (if k then 1 else 0)) H
theorem q_intB {X : Cx} : CallR X (.type "int") rIntOf := call_int1
theorem q_intI {X : Cx} : CallR X (.type "int") rIntOf := call_int1

/-! ### operators by names -/
def xAdd : R2 := rI0 fun i j => .int (i + j)
def xSub : R2 := rI0 fun i j => .int (i - j)
def xMul : R2 := rI CMul fun i j => .int (i * j)
def xMulW : R2 := rI CMulW fun i j => .int (i * j)
def xDiv : R2 := rI CDiv fun i j => .int (i / j)
def xDivW : R2 := rI CDivW fun i j => .int (i / j)
def xMod : R2 := rI (fun _ j => 0 < j) fun i j => .int (i % j)
def xPow : R2 := rI CPow fun i j => .int (i ^ j.toNat)
def xLt : R2 := rI0 fun i j => .bl (decide (i < j))
def xLe : R2 := rI0 fun i j => .bl (decide (i ≤ j))
def xGt : R2 := rI0 fun i j => .bl (decide (j < i))
def xGe : R2 := rI0 fun i j => .bl (decide (j ≤ i))
def xNeg : V → Hp → VK → Prop := rU fun i => .int (-i)
def xIsN : R2 := fun x y H Q => y = .non ∧ Q (.bl (decide (x = .non))) H
def xNotN : R2 := fun x y H Q => y = .non ∧ Q (.bl (!decide (x = .non))) H
def xTru (K : PySem.W.Frag) (ta : TE) : TT := fun σ H Q => ta σ H fun x H' => ∃ k, TruV K x H' k ∧ Q k H'

/-! ### xs[i] += e -/
def rGetL (K : PySem.W.Frag) : V → V → Hp → VK → Prop := fun x y H Q => ∃ p xs i v, x = .ref p ∧ y = .int i ∧ SqL K H p xs ∧ 0 ≤ i ∧ atI xs i = some v ∧ Q v H
theorem get_list {X : Cx} : PGet X (rGetL X.K) := by
  intro pins s σ H x y v u Q I rx ry h
  obtain ⟨p, xs, i, z, rfl, rfl, hq, h0, he, q⟩ := h
  cases rx
  obtain ⟨t, rfl⟩ := ry
  obtain ⟨its, r, pl, hz⟩ := I.list hq
  obtain ⟨j, h1, h2, h3, h4, h5⟩ := atI_get he
  obtain ⟨w, ew, rw'⟩ := r.get h2
  have hl := r.length
  have hn := line63
  have fin : EP X pins σ Q w s := ⟨z, H, I, rw', q⟩
  have hj : i.toNat = j := by
    rw [seqIndex_of h0 h5] at h1
    exact Option.some.inj h1
  exact wpAny_getItem_list pl.isList h0 (by omega) (by rw [hj]; simpa using ew) fin
def xAugL (K : PySem.W.Frag) (to ti te : TE) : TS := tAugS to ti te (rGetL K) (ipI fun i j => i + j) rSetL
theorem q_augL {X : Cx} {o i e : Expr} {to ti te : TE} {tpos pos : Pos} (ho : PE X o to) (hi : PE X i ti) (he : PE X e te)
    (ha : ∀ ov iv new, augStore i ov iv new = (do holding [new, ov, iv] (setItem ov iv new); release [new, ov, iv] []; pure .next) := by intros; rfl) : PS X (.AugAssign (.Subscript o i tpos) .Add e pos) (xAugL X.K to ti te) :=
  ps_augS ho hi get_list he ip_add set_list ha

/-! ### constants of the module -/
def g_tok (mg : Str → Option Value) (x : Str) : Tok := match mg x with
  | some (.int _ t) => t
  | _ => default
theorem tok_mk {mg : Str → Option Value} {x : Str} {n : Int} {t : Tok} (h : mg x = some (.int n t)) : mg x = some (.int n (g_tok mg x)) := by
  unfold g_tok
  rw [h]

/-! ### heaps -/
theorem same_new {H : Hp} {p : Addr} {o : HO} (h : H p = none) : Same H (upd H p o) := fun b x e => by
  rw [upd_ne (ne_of_none e h)]
  exact e
theorem same_mut {H H' : Hp} {p : Addr} {o : HO} (e : Same H H') (h : H p = none) : Same H (upd H' p o) := fun a u ha => by
  rw [upd_ne (ne_of_none ha h)]
  exact e a u ha
theorem same_seqT {K : PySem.W.Frag} {H H' : Hp} {a : Addr} {xs : List V} (e : Same H H') (h : SqT K H a xs) : SqT K H' a xs := by
  rcases h with (h | ⟨o, h⟩) | h
  · exact .inl (.inl (e _ _ h))
  · exact .inl (.inr ⟨o, e _ _ h⟩)
  · exact .inr h
theorem sl {K : PySem.W.Frag} {H : Hp} {a : Addr} {xs : List V} (h : H a = some (.lst xs)) : SqL K H a xs := .inl (.inl h)
theorem stp {K : PySem.W.Frag} {H : Hp} {a : Addr} {xs : List V} (h : H a = some (.tup xs)) : SqT K H a xs := .inl (.inl h)
theorem sz {n : Nat} (h : n ≤ 100000) : n ≤ sizeLine := Nat.le_trans h (by decide)
theorem szl {n : Nat} (h : n < 100000) : n < sizeLine := Nat.lt_of_lt_of_le h (by decide)

/-! ### data -/
mutual
theorem dp_same {K : PySem.W.Frag} {H H' : Hp} (e : Same H H') : ∀ {v : V} {d : PyData}, Dp K H v d → Dp K H' v d
  | _, _, .non => .non
  | _, _, .bl b => .bl b
  | _, _, .int i => .int i
  | _, _, .str x => .str x
  | _, _, .lst s r => .lst (e.seq s) (dpa_same e r)
  | _, _, .tup s r => .tup (same_seqT e s) (dpa_same e r)
theorem dpa_same {K : PySem.W.Frag} {H H' : Hp} (e : Same H H') : ∀ {vs : List V} {ds : List PyData}, DpAll K H vs ds → DpAll K H' vs ds
  | _, _, .nil => .nil
  | _, _, .cons h r => .cons (dp_same e h) (dpa_same e r)
end
section
variable {K : PySem.W.Frag} {H : Hp}
theorem dp_int {v : V} {i : Int} (h : Dp K H v (.int i)) : v = .int i := by cases h; rfl
theorem dp_bool {v : V} {b : Bool} (h : Dp K H v (.bool b)) : v = .bl b := by cases h; rfl
theorem dp_str {v : V} {s : Str} (h : Dp K H v (.str s)) : v = .str s := by cases h; rfl
theorem dp_list {v : V} {ds : List PyData} (h : Dp K H v (.list ds)) : ∃ a xs, v = .ref a ∧ SqL K H a xs ∧ DpAll K H xs ds := by
  cases h with | lst s r => exact ⟨_, _, rfl, s, r⟩
theorem dp_tup {v : V} {ds : List PyData} (h : Dp K H v (.tuple ds)) : ∃ a xs, v = .ref a ∧ SqT K H a xs ∧ DpAll K H xs ds := by
  cases h with | tup s r => exact ⟨_, _, rfl, s, r⟩
theorem dp_tup2 {v : V} {c d : PyData} (h : Dp K H v (.tuple [c, d])) : ∃ a x y, v = .ref a ∧ SqT K H a [x, y] ∧ Dp K H x c ∧ Dp K H y d := by
  cases h with | tup s r =>
    cases r with | cons h1 r =>
      cases r with | cons h2 r =>
        cases r
        exact ⟨_, _, _, rfl, s, h1, h2⟩
theorem dp_pair {v : V} {a b : Int} (h : Dp K H v (.tuple [.int a, .int b])) : ∃ p, v = .ref p ∧ SqT K H p [.int a, .int b] := by
  obtain ⟨p, x, y, rfl, s, h1, h2⟩ := dp_tup2 h
  rw [dp_int h1, dp_int h2] at s
  exact ⟨p, rfl, s⟩
theorem dpa_ints : ∀ {ns : List Int} {vs : List V}, DpAll K H vs (ns.map PyData.int) → vs = ns.map V.int
  | [], _, h => by cases h; rfl
  | n :: r, _, h => by
    cases h with | cons h1 h2 => rw [dp_int h1, dpa_ints h2]; rfl
theorem dpa_of_ints : ∀ ns : List Int, DpAll K H (ns.map V.int) (ns.map PyData.int)
  | [] => .nil
  | n :: r => .cons (.int n) (dpa_of_ints r)
theorem dpa_len : ∀ {vs : List V} {ds : List PyData}, DpAll K H vs ds → vs.length = ds.length
  | _, _, .nil => rfl
  | _, _, .cons _ r => by simp [dpa_len r]
theorem dpa_get : ∀ {vs : List V} {ds : List PyData} {i : Nat} {v : V}, DpAll K H vs ds → vs[i]? = some v → ∃ d, ds[i]? = some d ∧ Dp K H v d
  | _, _, _, _, .nil, e => by simp at e
  | _, _, 0, _, .cons h _, e => by simp at e; subst e; exact ⟨_, rfl, h⟩
  | _, _, i + 1, _, .cons _ r, e => by
    obtain ⟨d, h1, h2⟩ := dpa_get (i := i) r (by simpa using e)
    exact ⟨d, by simpa using h1, h2⟩
theorem dpa_get2 : ∀ {vs : List V} {ds : List PyData} {i : Nat} {d : PyData}, DpAll K H vs ds → ds[i]? = some d → ∃ v, vs[i]? = some v ∧ Dp K H v d
  | _, _, _, _, .nil, e => by simp at e
  | _, _, 0, _, .cons h _, e => by simp at e; subst e; exact ⟨_, rfl, h⟩
  | _, _, i + 1, _, .cons _ r, e => by
    obtain ⟨d, h1, h2⟩ := dpa_get2 (i := i) r (by simpa using e)
    exact ⟨d, by simpa using h1, h2⟩
theorem dpa_app {vs ws : List V} {ds es : List PyData} : DpAll K H vs ds → DpAll K H ws es → DpAll K H (vs ++ ws) (ds ++ es)
  | .nil, r => r
  | .cons h t, r => .cons h (dpa_app t r)
/-- a list of ints -/
abbrev dInts (ns : List Int) : PyData := .list (ns.map PyData.int)
theorem dp_ints {v : V} {ns : List Int} (h : Dp K H v (dInts ns)) : ∃ a, v = .ref a ∧ SqL K H a (ns.map V.int) := by
  obtain ⟨a, xs, rfl, s, r⟩ := dp_list h
  rw [dpa_ints r] at s
  exact ⟨a, rfl, s⟩
theorem dp_of_ints {a : Addr} {ns : List Int} (h : SqL K H a (ns.map V.int)) : Dp K H (.ref a) (dInts ns) := .lst h (dpa_of_ints ns)
/-- a pair of ints -/
abbrev dPair (p : Int × Int) : PyData := .tuple [.int p.1, .int p.2]
theorem dp_of_pair {a : Addr} {x y : Int} (h : SqT K H a [.int x, .int y]) : Dp K H (.ref a) (dPair (x, y)) := .tup h (.cons (.int x) (.cons (.int y) .nil))
abbrev dPairs (ps : List (Int × Int)) : PyData := .list (ps.map dPair)
end

theorem dpairs_get {K : PySem.W.Frag} {H : Hp} {xs : List V} {ps : List (Int × Int)} {i : Nat} {x : V} (hxs : DpAll K H xs (ps.map dPair)) (hx : xs[i]? = some x) : ∃ p c, ps[i]? = some p ∧ x = .ref c ∧ SqT K H c [.int p.1, .int p.2] := by
  obtain ⟨d, hd, hdx⟩ := dpa_get hxs hx
  rw [List.getElem?_map] at hd
  obtain ⟨p, hp, rfl⟩ := Option.map_eq_some_iff.mp hd
  obtain ⟨c, rfl, hcs⟩ := dp_pair hdx
  exact ⟨p, c, hp, rfl, hcs⟩
/-- data that may be compared: no dicts, at most n deep -/
def Sh (n : Nat) (d : PyData) : Prop := d.canLay0 = true ∧ d.depth ≤ n
theorem Sh.shaped {n : Nat} {d : PyData} (h : Sh n d) (hn : n ≤ 64) : SeqAt.shaped d = true := by
  unfold SeqAt.shaped
  rw [h.1, decide_eq_true (Nat.le_trans h.2 hn)]; rfl
theorem Sh.mono {n m : Nat} {d : PyData} (h : Sh n d) (hn : n ≤ m) : Sh m d := ⟨h.1, Nat.le_trans h.2 hn⟩
theorem sh_int {n : Nat} {i : Int} : Sh n (.int i) := ⟨rfl, Nat.zero_le _⟩
theorem sh_bool {n : Nat} {b : Bool} : Sh n (.bool b) := ⟨rfl, Nat.zero_le _⟩
theorem sh_none {n : Nat} : Sh n .none := ⟨rfl, Nat.zero_le _⟩
theorem sh_all {n : Nat} : ∀ {ds : List PyData}, (∀ d ∈ ds, Sh n d) → PyData.canLayAll0 ds = true ∧ PyData.depthAll ds ≤ n
  | [], _ => ⟨rfl, Nat.zero_le _⟩
  | d :: r, h => by
    obtain ⟨h1, h2⟩ := sh_all (ds := r) fun x hx => h x (List.mem_cons_of_mem _ hx)
    obtain ⟨h3, h4⟩ := h d List.mem_cons_self
    refine ⟨?_, ?_⟩
    · show (PyData.canLay0 d && PyData.canLayAll0 r) = true
      rw [h3, h1]; rfl
    · show max d.depth (PyData.depthAll r) ≤ n
      omega
theorem sh_list {n : Nat} {ds : List PyData} (h : ∀ d ∈ ds, Sh n d) : Sh (n + 1) (.list ds) := by
  obtain ⟨h1, h2⟩ := sh_all h
  exact ⟨h1, by show PyData.depthAll ds + 1 ≤ n + 1; omega⟩
theorem sh_tup {n : Nat} {ds : List PyData} (h : ∀ d ∈ ds, Sh n d) : Sh (n + 1) (.tuple ds) := by
  obtain ⟨h1, h2⟩ := sh_all h
  exact ⟨h1, by show PyData.depthAll ds + 1 ≤ n + 1; omega⟩
theorem sh_ints {n : Nat} (ns : List Int) : Sh (n + 1) (dInts ns) := sh_list fun d hd => by
  obtain ⟨i, _, rfl⟩ := List.mem_map.mp hd
  exact sh_int
theorem sh_pair {n : Nat} (p : Int × Int) : Sh (n + 1) (dPair p) := sh_tup fun d hd => by
  rcases List.mem_cons.mp hd with rfl | hd
  · exact sh_int
  · rcases List.mem_cons.mp hd with rfl | hd
    · exact sh_int
    · cases hd
theorem sh_pairs {n : Nat} (ps : List (Int × Int)) : Sh (n + 2) (dPairs ps) := sh_list fun d hd => by
  obtain ⟨p, _, rfl⟩ := List.mem_map.mp hd
  exact sh_pair p
theorem sh_two {n : Nat} {c d : PyData} (h1 : Sh n c) (h2 : Sh n d) : Sh (n + 1) (.tuple [c, d]) := sh_tup fun x hx => by
  rcases List.mem_cons.mp hx with rfl | hx
  · exact h1
  · rcases List.mem_cons.mp hx with rfl | hx
    · exact h2
    · cases hx
theorem Sh.refl {n : Nat} {d : PyData} (h : Sh n d) : PyData.eqv d d = true := SeqAt.eqv_refl d h.1
theorem ff_iff {P : Prop} (h : ¬ P) : false = true ↔ P := ⟨fun z => (nomatch z), fun z => (h z).elim⟩
theorem tt_iff {P : Prop} (h : P) : true = true ↔ P := ⟨fun _ => h, fun _ => rfl⟩

theorem ixN_of {n : Nat} {i : Int} (h0 : 0 ≤ i) (h1 : i < n) : ixN n i = some i.toNat := by unfold ixN; rw [if_pos h0, if_pos h1]
theorem map_erase (ns : List Int) (i : Nat) : (ns.map V.int).eraseIdx i = (ns.eraseIdx i).map V.int := by
  induction ns generalizing i with
  | nil => rfl
  | cons x r ih => cases i with
    | zero => rfl
    | succ i => show V.int x :: (r.map V.int).eraseIdx i = _; rw [ih]; rfl
theorem erase_perm {α : Type} (l : List α) (i : Nat) (h : i < l.length) : (l[i] :: l.eraseIdx i).Perm l := by
  induction l generalizing i with
  | nil => exact absurd h (by simp)
  | cons x r ih => cases i with
    | zero => exact List.Perm.refl _
    | succ i =>
      have h' : i < r.length := by simpa using h
      show (r[i] :: x :: r.eraseIdx i).Perm (x :: r)
      exact (List.Perm.swap _ _ _).trans ((ih i h').cons x)
theorem getD_memI {ns : List Int} {i : Int} (h0 : 0 ≤ i) (h1 : i < ns.length) : ns.getD i.toNat 0 ∈ ns := by
  have h : i.toNat < ns.length := by omega
  rw [List.getD_eq_getElem?_getD, List.getElem?_eq_getElem h]
  exact List.getElem_mem h
theorem not_in2 {p a b : Addr} (h1 : p ≠ a) (h2 : p ≠ b) : p ∉ [a, b] := by
  intro z
  rcases List.mem_cons.mp z with z | z
  · exact h1 z
  · rcases List.mem_cons.mp z with z | z
    · exact h2 z
    · cases z

/-! ### readings, step by step -/
section
variable {K : PySem.W.Frag} {σ : L2.St} {H : Hp} {D : Ends} {Q : VK} {ta tb te : TE} {t u : TT} {s1 s2 : TS} {QT : Bool → Hp → Prop} {QA : List V → Hp → Prop} {tr : TA} {QS : L2.St → Hp → Prop}
theorem k_seq {nx : L2.St → Hp → Prop} {rt : VK} {bk ct : L2.St → Hp → Prop} (h : s1 ⟨s2 ⟨nx, rt, bk, ct⟩, rt, bk, ct⟩ σ H) : tSeq s1 s2 ⟨nx, rt, bk, ct⟩ σ H := h
theorem k_nx {nx : L2.St → Hp → Prop} {rt : VK} {bk ct : L2.St → Hp → Prop} (h : nx σ H) : Ends.nx ⟨nx, rt, bk, ct⟩ σ H := h
theorem k_next {nx : L2.St → Hp → Prop} {rt : VK} {bk ct : L2.St → Hp → Prop} (h : nx σ H) : tNext ⟨nx, rt, bk, ct⟩ σ H := h
theorem k_cont {nx : L2.St → Hp → Prop} {rt : VK} {bk ct : L2.St → Hp → Prop} (h : ct σ H) : tCont ⟨nx, rt, bk, ct⟩ σ H := h
theorem k_brk {nx : L2.St → Hp → Prop} {rt : VK} {bk ct : L2.St → Hp → Prop} (h : bk σ H) : tBreak ⟨nx, rt, bk, ct⟩ σ H := h
theorem k_set {nx : L2.St → Hp → Prop} {rt : VK} {bk ct : L2.St → Hp → Prop} {i : Nat} (h : te σ H fun x H1 => nx (σ.set i (some x)) H1) : tAsg te (gName i) ⟨nx, rt, bk, ct⟩ σ H := h
theorem k_asg {nx : L2.St → Hp → Prop} {rt : VK} {bk ct : L2.St → Hp → Prop} {g : TG} (h : te σ H fun x H1 => g x σ H1 nx) : tAsg te g ⟨nx, rt, bk, ct⟩ σ H := h
theorem k_drop {nx : L2.St → Hp → Prop} {rt : VK} {bk ct : L2.St → Hp → Prop} (h : te σ H fun _ H1 => nx σ H1) : tDrop te ⟨nx, rt, bk, ct⟩ σ H := h
theorem k_ret {nx : L2.St → Hp → Prop} {rt : VK} {bk ct : L2.St → Hp → Prop} (h : te σ H rt) : tRet te ⟨nx, rt, bk, ct⟩ σ H := h
theorem k_retN {nx : L2.St → Hp → Prop} {rt : VK} {bk ct : L2.St → Hp → Prop} (h : rt .non H) : tRetN ⟨nx, rt, bk, ct⟩ σ H := h
theorem k_aug {nx : L2.St → Hp → Prop} {rt : VK} {bk ct : L2.St → Hp → Prop} {i : Nat} {f : Int → Int → Int} {a : Int} (e : σ[i]? = some (some (.int a))) (h : te σ H fun y H1 => ipI f (.int a) y H1 fun z H2 => nx (σ.set i (some z)) H2) : tAug i te (ipI f) ⟨nx, rt, bk, ct⟩ σ H := ⟨_, e, h⟩
theorem k_augL {nx : L2.St → Hp → Prop} {rt : VK} {bk ct : L2.St → Hp → Prop} {to ti : TE} (h : to σ H fun o H1 => ti σ H1 fun i H2 => rGetL K o i H2 fun x H3 => te σ H3 fun y H4 => ipI (fun i j => i + j) x y H4 fun z H5 => rSetL o i z H5 fun H6 => nx σ H6) : xAugL K to ti te ⟨nx, rt, bk, ct⟩ σ H := h
theorem k_ipI {f : Int → Int → Int} {a b : Int} (h : Q (.int (f a b)) H) : ipI f (.int a) (.int b) H Q := ⟨a, b, rfl, rfl, h⟩
theorem k_if (h : t σ H fun b H1 => if b = true then s1 D σ H1 else s2 D σ H1) : tIfS t s1 s2 D σ H := h
theorem k_var {i : Nat} {v : V} (e : σ[i]? = some (some v)) (h : Q v H) : tVar i σ H Q := ⟨v, e, h⟩
theorem k_c {v : V} (h : Q v H) : tC v σ H Q := h
theorem k_op {r : R2} (h : ta σ H fun x H1 => tb σ H1 fun y H2 => r x y H2 Q) : tOp r ta tb σ H Q := h
theorem k_un {r : V → Hp → VK → Prop} (h : ta σ H fun x H1 => r x H1 Q) : tUn r ta σ H Q := h
theorem k_I0 {g : Int → Int → V} {i j : Int} (h : Q (g i j) H) : rI0 g (.int i) (.int j) H Q := ⟨i, j, rfl, rfl, h⟩
theorem k_I {C : Int → Int → Prop} {g : Int → Int → V} {i j : Int} (hc : C i j) (h : Q (g i j) H) : rI C g (.int i) (.int j) H Q := ⟨i, j, rfl, rfl, hc, h⟩
theorem k_add {i j : Int} (h : Q (.int (i + j)) H) : xAdd (.int i) (.int j) H Q := ⟨i, j, rfl, rfl, h⟩
theorem k_sub {i j : Int} (h : Q (.int (i - j)) H) : xSub (.int i) (.int j) H Q := ⟨i, j, rfl, rfl, h⟩
theorem k_mul {i j : Int} (hc : CMul i j) (h : Q (.int (i * j)) H) : xMul (.int i) (.int j) H Q := ⟨i, j, rfl, rfl, hc, h⟩
theorem k_mulW {i j : Int} (hc : CMulW i j) (h : Q (.int (i * j)) H) : xMulW (.int i) (.int j) H Q := ⟨i, j, rfl, rfl, hc, h⟩
theorem k_div {i j : Int} (hc : CDiv i j) (h : Q (.int (i / j)) H) : xDiv (.int i) (.int j) H Q := ⟨i, j, rfl, rfl, hc, h⟩
theorem k_divW {i j : Int} (hc : CDivW i j) (h : Q (.int (i / j)) H) : xDivW (.int i) (.int j) H Q := ⟨i, j, rfl, rfl, hc, h⟩
theorem k_mod {i j : Int} (hc : 0 < j) (h : Q (.int (i % j)) H) : xMod (.int i) (.int j) H Q := ⟨i, j, rfl, rfl, hc, h⟩
theorem k_pow {i j : Int} (hc : CPow i j) (h : Q (.int (i ^ j.toNat)) H) : xPow (.int i) (.int j) H Q := ⟨i, j, rfl, rfl, hc, h⟩
theorem k_lt {i j : Int} (h : Q (.bl (decide (i < j))) H) : xLt (.int i) (.int j) H Q := ⟨i, j, rfl, rfl, h⟩
theorem k_le {i j : Int} (h : Q (.bl (decide (i ≤ j))) H) : xLe (.int i) (.int j) H Q := ⟨i, j, rfl, rfl, h⟩
theorem k_gt {i j : Int} (h : Q (.bl (decide (j < i))) H) : xGt (.int i) (.int j) H Q := ⟨i, j, rfl, rfl, h⟩
theorem k_ge {i j : Int} (h : Q (.bl (decide (j ≤ i))) H) : xGe (.int i) (.int j) H Q := ⟨i, j, rfl, rfl, h⟩
theorem k_neg {i : Int} (h : Q (.int (-i)) H) : xNeg (.int i) H Q := ⟨i, rfl, h⟩
theorem k_U {g : Int → V} {i : Int} (h : Q (g i) H) : rU g (.int i) H Q := ⟨i, rfl, h⟩
theorem k_eqI {i j : Int} (h : Q (.bl (decide (i = j))) H) : rEq (.int i) (.int j) H Q := ⟨rfl, by
  have e : decide (V.int i = V.int j) = decide (i = j) := by
    by_cases c : i = j
    · rw [decide_eq_true c, decide_eq_true (by rw [c])]
    · rw [decide_eq_false c, decide_eq_false (fun z => c (V.int.inj z))]
  rw [e]; exact h⟩
theorem k_neI {i j : Int} (h : Q (.bl (!decide (i = j))) H) : rNe (.int i) (.int j) H Q := ⟨rfl, by
  have e : decide (V.int i = V.int j) = decide (i = j) := by
    by_cases c : i = j
    · rw [decide_eq_true c, decide_eq_true (by rw [c])]
    · rw [decide_eq_false c, decide_eq_false (fun z => c (V.int.inj z))]
  rw [e]; exact h⟩
theorem k_test (h : te σ H fun x H1 => ∃ k, x = .bl k ∧ QT k H1) : tTest te σ H QT := h
theorem k_B (h : te σ H fun x H1 => ∃ k, x = .bl k ∧ QT k H1) : tB te σ H QT := h
theorem k_bl {b : Bool} {R : Bool → Prop} (h : R b) : ∃ k, V.bl b = .bl k ∧ R k := ⟨b, rfl, h⟩
theorem k_and (h : t σ H fun c H1 => if c = true then u σ H1 QT else QT false H1) : tAnd t u σ H QT := h
theorem k_or (h : t σ H fun c H1 => if c = true then QT true H1 else u σ H1 QT) : tOr t u σ H QT := h
theorem k_not (h : t σ H fun c H1 => QT (!c) H1) : tNot t σ H QT := h
theorem k_notV (h : ta σ H fun x H1 => ∃ c, x = .bl c ∧ Q (.bl (!c)) H1) : tNotV ta σ H Q := h
theorem k_andV (h : ta σ H fun x H1 => ∃ c, x = .bl c ∧ if c = true then tb σ H1 Q else Q (.bl false) H1) : tAndV ta tb σ H Q := h
theorem k_orV (h : ta σ H fun x H1 => ∃ c, x = .bl c ∧ if c = true then Q (.bl true) H1 else tb σ H1 Q) : tOrV ta tb σ H Q := h
theorem k_cb {r : List V → Hp → VK → Prop} (h : tr σ H fun vs H1 => r vs H1 Q) : tCB r tr σ H Q := h
theorem k_nil (h : QA [] H) : tNil σ H QA := h
theorem k_cons (h : ta σ H fun x H1 => tr σ H1 fun xs H2 => QA (x :: xs) H2) : tCons ta tr σ H QA := h
theorem k_call {sp : Sp} {dvs : List V} {E : XK} (h : tr σ H fun vs H1 => sp (vs ++ dvs) H1 Q E) : tCall sp dvs E tr σ H Q := h
theorem k_len {p : Addr} {ys : List V} (hs : SqL K H p ys) (h : Q (.int ys.length) H) : rLen K [.ref p] H Q := ⟨p, ys, rfl, .inl hs, h⟩
theorem k_len0 {p : Addr} (hs : H p = some (.lst [])) (h : Q (.int 0) H) : rLen K [.ref p] H Q := ⟨p, [], rfl, .inl (sl hs), h⟩
theorem k_lenT {p : Addr} {ys : List V} (hs : SqT K H p ys) (h : Q (.int ys.length) H) : rLen K [.ref p] H Q := ⟨p, ys, rfl, .inr hs, h⟩
theorem k_lenI {p : Addr} {ns : List Int} (hs : SqL K H p (ns.map V.int)) (h : Q (.int ns.length) H) : rLen K [.ref p] H Q := ⟨p, _, rfl, .inl hs, by rw [List.length_map]; exact h⟩
theorem k_list {p : Addr} {ys : List V} (hs : SqL K H p ys) (h : ∀ l, H l = none → Q (.ref l) (upd H l (.lst ys))) : rListOf K [.ref p] H Q := ⟨p, ys, rfl, .inl hs, h⟩
theorem k_lst (h : tr σ H fun xs H1 => xs.length ≤ sizeLine ∧ ∀ p, H1 p = none → Q (.ref p) (upd H1 p (.lst xs))) : tLst tr σ H Q := h
theorem k_tup (h : tr σ H fun xs H1 => xs.length ≤ sizeLine ∧ ∀ p, H1 p = none → Q (.ref p) (upd H1 p (.tup xs))) : tTup tr σ H Q := h
theorem k_new {xs : List V} {R : Addr → Prop} (hn : xs.length ≤ 100000) (h : ∀ p, H p = none → R p) : xs.length ≤ sizeLine ∧ ∀ p, H p = none → R p := ⟨sz hn, h⟩
theorem k_gtup {n : Nat} {g : TGs} {a : Addr} {xs : List V} (hs : SqT K H a xs) (hn : xs.length = n) (h : g xs σ H QS) : gTup K n g (.ref a) σ H QS := ⟨a, xs, rfl, hs, hn, h⟩
theorem k_gunl {n : Nat} {g : TGs} {a : Addr} {xs : List V} (hs : SqL K H a xs) (hn : xs.length = n) (h : g xs σ H QS) : gUnl K n g (.ref a) σ H QS := ⟨a, xs, rfl, hs, hn, h⟩
theorem k_gcons {g : TG} {gs : TGs} {v : V} {r : List V} (h : g v σ H fun σ' H' => gs r σ' H' QS) : gCons g gs (v :: r) σ H QS := ⟨v, r, rfl, h⟩
theorem k_gnil (h : QS σ H) : gNil [] σ H QS := ⟨rfl, h⟩
theorem k_gname {i : Nat} {v : V} (h : QS (σ.set i (some v)) H) : gName i v σ H QS := h
theorem k_gsub {to ti : TE} {ts : TSet} {v : V} (h : to σ H fun o H1 => ti σ H1 fun i H2 => ts o i v H2 fun H3 => QS σ H3) : gSub to ti ts v σ H QS := h
theorem k_setL {p : Addr} {xs : List V} {k : Int} {j : Nat} {v : V} {QH : Hp → Prop} (hp : H p = some (.lst xs)) (hj : ixN xs.length k = some j) (h : QH (upd H p (.lst (xs.set j v)))) : rSetL (.ref p) (.int k) v H QH := ⟨p, xs, k, j, rfl, rfl, hp, hj, h⟩
theorem k_ixL {p : Addr} {xs : List V} {i : Int} {v : V} (hs : SqL K H p xs) (ha : atI xs i = some v) (h : Q v H) : rIxL K (.ref p) (.int i) H Q := ⟨p, xs, i, v, rfl, rfl, hs, ha, h⟩
theorem k_ixT {p : Addr} {xs : List V} {i : Int} {v : V} (hs : SqT K H p xs) (ha : atI xs i = some v) (h : Q v H) : rIxT K (.ref p) (.int i) H Q := ⟨p, xs, i, v, rfl, rfl, hs, ha, h⟩
theorem k_min {p : Addr} {ns : List Int} (hs : SqL K H p (ns.map V.int)) (h0 : 0 < ns.length) (h : ∀ m, m ∈ ns → (∀ y, y ∈ ns → m ≤ y) → Q (.int m) H) : rMin K [.ref p] H Q := ⟨p, ns, rfl, hs, h0, h⟩
theorem k_max {p : Addr} {ns : List Int} (hs : SqL K H p (ns.map V.int)) (h0 : 0 < ns.length) (h : ∀ m, m ∈ ns → (∀ y, y ∈ ns → y ≤ m) → Q (.int m) H) : rMax K [.ref p] H Q := ⟨p, ns, rfl, hs, h0, h⟩
theorem k_popI {p : Addr} {ns : List Int} {i : Int} (hp : H p = some (.lst (ns.map V.int))) (h0 : 0 ≤ i) (h1 : i < ns.length) (h2 : i < 1000000) (h : Q (.int (ns.getD i.toNat 0)) (upd H p (.lst ((ns.eraseIdx i.toNat).map V.int)))) : rPopAt (.ref p) [.int i] H Q := by
  refine ⟨p, _, i, i.toNat, .int (ns.getD i.toNat 0), rfl, rfl, hp, by omega, by omega, ?_, ?_, ?_⟩
  · exact (ixN_seq (ixN_of h0 (by rw [List.length_map]; exact h1))).1
  · have hh : i.toNat < ns.length := by omega
    rw [List.getElem?_map, List.getElem?_eq_getElem hh]
    simp [List.getD_eq_getElem?_getD, List.getElem?_eq_getElem hh]
  · have e : (ns.map V.int).eraseIdx i.toNat = (ns.eraseIdx i.toNat).map V.int := map_erase ns _
    rw [e]; exact h
theorem k_sortedI {a : Addr} {ns : List Int} (hs : SqL K H a (ns.map V.int)) (h : ∀ (ns' : List Int) (p : Addr), ns'.Perm ns → ns'.Pairwise (· ≤ ·) → H p = none → Q (.ref p) (upd H p (.lst (ns'.map V.int)))) : rSortedI K [.ref a] H Q := ⟨a, ns, rfl, hs, h⟩
theorem k_max2 {i j : Int} (h : Q (.int (if j > i then j else i)) H) : rMax2 [.int i, .int j] H Q := ⟨i, j, rfl, h⟩
theorem k_min2 {i j : Int} (h : Q (.int (if j < i then j else i)) H) : rMin2 [.int i, .int j] H Q := ⟨i, j, rfl, h⟩
theorem k_bm {T : String} {r : V → List V → Hp → VK → Prop} (h : ta σ H fun x H1 => tyV K T x H1 ∧ tr σ H1 fun xs H2 => r x xs H2 Q) : tBM K T r ta tr σ H Q := h
theorem k_bm0 {T : String} {r : V → List V → Hp → VK → Prop} (h : ta σ H fun x H1 => tyV K T x H1 ∧ r x [] H1 Q) : tBM0 K T r ta σ H Q := h
theorem k_cat {p q : Addr} {xs ys : List V} (hp : H p = some (.lst xs)) (hq : H q = some (.lst ys)) (hz : xs.length + ys.length ≤ 100000) (h : ∀ l, H l = none → Q (.ref l) (upd H l (.lst (xs ++ ys)))) : rCat (.ref p) (.ref q) H Q := ⟨p, q, xs, ys, rfl, rfl, hp, hq, sz hz, h⟩
theorem k_tyL {p : Addr} {xs : List V} {R : Prop} (hp : SqL K H p xs) (h : R) : tyV K "list" (.ref p) H ∧ R := ⟨.inl ⟨rfl, _, hp⟩, h⟩
theorem k_append {p : Addr} {xs : List V} {y : V} (hp : H p = some (.lst xs)) (hn : xs.length < 100000) (h : Q .non (upd H p (.lst (xs ++ [y])))) : rAppend (.ref p) [y] H Q := ⟨p, xs, y, rfl, rfl, hp, szl hn, h⟩
theorem k_itT {b : Bool} {A B : Prop} (e : b = true) (h : A) : if b = true then A else B := by rw [if_pos e]; exact h
theorem k_itF {b : Bool} {A B : Prop} (e : b = false) (h : B) : if b = true then A else B := by rw [e]; exact h
theorem iteNT {A B : Prop} (h : B) : if (!true) = true then A else B := iteF h
theorem iteNF {A B : Prop} (h : A) : if (!false) = true then A else B := iteT h
theorem k_itDT {c A B : Prop} [Decidable c] (e : c) (h : A) : if decide c = true then A else B := by rw [if_pos (decide_eq_true e)]; exact h
theorem k_itDF {c A B : Prop} [Decidable c] (e : ¬ c) (h : B) : if decide c = true then A else B := by rw [decide_eq_false e]; exact h
theorem k_itNT {c A B : Prop} [Decidable c] (e : ¬ c) (h : A) : if (!decide c) = true then A else B := by rw [decide_eq_false e]; exact h
theorem k_itNF {c A B : Prop} [Decidable c] (e : c) (h : B) : if (!decide c) = true then A else B := by rw [decide_eq_true e]; exact h
theorem k_for {nx : L2.St → Hp → Prop} {rt : VK} {bk ct : L2.St → Hp → Prop} {wi : TI} {g : TG} {tb : TS} (h : wi σ H fun J H1 => ∃ W : Nat → Nat → L2.St → Hp → Prop, (∃ m, W 0 m σ H1) ∧ ∀ i m σ H, W i m σ H →
  (J.stop i H ∧ nx σ H) ∨ (J.go i H ∧ ∃ N : L2.St → Hp → Prop, (∀ σ' H', N σ' H' → ∃ m', m' < m ∧ W (i + 1) m' σ' H') ∧ ∀ x H', J.yld i H x H' → g x σ H' fun σ2 H2 => tb ⟨N, rt, nx, N⟩ σ2 H2)) : tFor wi g tb ⟨nx, rt, bk, ct⟩ σ H := h
theorem forL {nx : L2.St → Hp → Prop} {rt : VK} {b : Addr} {xs : List V} {g : TG} {tb : TS} (hs0 : SqL K H b xs) (Pv : Nat → L2.St → Hp → Prop) (h0 : Pv 0 σ H) (hl : ∀ i σ H, i ≤ xs.length → Pv i σ H → SqL K H b xs)
    (hs : ∀ (i : Nat) x σ H, xs[i]? = some x → Pv i σ H → g x σ H fun σ2 H2 => tb ⟨Pv (i + 1), rt, nx, Pv (i + 1)⟩ σ2 H2) (hd : ∀ σ H, Pv xs.length σ H → nx σ H) :
    ∃ a, V.ref b = .ref a ∧ (∃ xs, SqL K H a xs) ∧ ∃ W : Nat → Nat → L2.St → Hp → Prop, (∃ m, W 0 m σ H) ∧ ∀ i m σ H, W i m σ H →
      ((Itl K a).stop i H ∧ nx σ H) ∨ ((Itl K a).go i H ∧ ∃ N : L2.St → Hp → Prop, (∀ σ' H', N σ' H' → ∃ m', m' < m ∧ W (i + 1) m' σ' H') ∧ ∀ x H', (Itl K a).yld i H x H' → g x σ H' fun σ2 H2 => tb ⟨N, rt, nx, N⟩ σ2 H2) :=
  ⟨b, rfl, ⟨xs, hs0⟩, for_list (D := ⟨nx, rt, fun _ _ => False, fun _ _ => False⟩) Pv h0 hl hs hd⟩
theorem forR {nx : L2.St → Hp → Prop} {rt : VK} {lo : Int} {n : Nat} {g : TG} {tb : TS} (Pv : Nat → L2.St → Hp → Prop) (h0 : Pv 0 σ H)
    (hs : ∀ (i : Nat) σ H, i < n → Pv i σ H → g (.int (lo + i)) σ H fun σ2 H2 => tb ⟨Pv (i + 1), rt, nx, Pv (i + 1)⟩ σ2 H2) (hd : ∀ σ H, Pv n σ H → nx σ H) :
    ∃ W : Nat → Nat → L2.St → Hp → Prop, (∃ m, W 0 m σ H) ∧ ∀ i m σ H, W i m σ H →
      ((Itr lo n).stop i H ∧ nx σ H) ∨ ((Itr lo n).go i H ∧ ∃ N : L2.St → Hp → Prop, (∀ σ' H', N σ' H' → ∃ m', m' < m ∧ W (i + 1) m' σ' H') ∧ ∀ x H', (Itr lo n).yld i H x H' → g x σ H' fun σ2 H2 => tb ⟨N, rt, nx, N⟩ σ2 H2) :=
  for_range (D := ⟨nx, rt, fun _ _ => False, fun _ _ => False⟩) Pv h0 hs hd
theorem k_while {nx : L2.St → Hp → Prop} {rt : VK} {bk ct : L2.St → Hp → Prop} {c : TT} {tb : TS} (h : ∃ W : Nat → L2.St → Hp → Prop, (∃ m, W m σ H) ∧ ∀ m σ H, W m σ H →
  c σ H fun b H1 => if b = true then ∃ N : L2.St → Hp → Prop, (∀ σ' H', N σ' H' → ∃ m', m' < m ∧ W m' σ' H') ∧ tb ⟨N, rt, nx, N⟩ σ H1 else nx σ H1) : tWhile c tb ⟨nx, rt, bk, ct⟩ σ H := h
theorem whileW {nx : L2.St → Hp → Prop} {rt : VK} {bk ct : L2.St → Hp → Prop} {c : TT} {tb : TS} (W : Nat → L2.St → Hp → Prop) {m0 : Nat} (h0 : W m0 σ H)
    (hs : ∀ m σ H, W m σ H → c σ H fun b H1 => if b = true then tb ⟨fun σ' H' => ∃ m', m' < m ∧ W m' σ' H', rt, nx, fun σ' H' => ∃ m', m' < m ∧ W m' σ' H'⟩ σ H1 else nx σ H1)
    (mono : ∀ σ H (Q Q' : Bool → Hp → Prop), (∀ b H1, Q b H1 → Q' b H1) → c σ H Q → c σ H Q') : tWhile c tb ⟨nx, rt, bk, ct⟩ σ H := by
  refine ⟨W, ⟨m0, h0⟩, fun m σ H w => mono σ H _ _ (fun b H1 q => ?_) (hs m σ H w)⟩
  cases b with
  | true => exact ⟨_, fun σ' H' h => h, q⟩
  | false => exact q
theorem k_iList {R : It → Hp → Prop} (h : te σ H fun x H1 => ∃ a, x = .ref a ∧ (∃ xs, SqL K H1 a xs) ∧ R (Itl K a) H1) : iList K te σ H R := h
theorem k_iTup {R : It → Hp → Prop} (h : te σ H fun x H1 => ∃ a, x = .ref a ∧ (∃ xs, SqT K H1 a xs) ∧ R (Itt K a) H1) : iTup K te σ H R := h
theorem k_iZip {R : It → Hp → Prop} (h : tr σ H fun vs H1 => ∃ a b xs ys, vs = [.ref a, .ref b] ∧ SqL K H1 a xs ∧ SqL K H1 b ys ∧ R (Itz K a b) H1) : iZip K tr σ H R := h
theorem k_iEnum {R : It → Hp → Prop} (h : tr σ H fun vs H1 => ∃ a xs, vs = [.ref a] ∧ SqL K H1 a xs ∧ R (Ite K a) H1) : iEnum K tr σ H R := h
theorem k_iRng1 {R : It → Hp → Prop} (h : tr σ H fun vs H1 => ∃ j : Int, vs = [.int j] ∧ -(2 ^ 62) ≤ j ∧ j < 2 ^ 62 ∧ R (Itr 0 j.toNat) H1) : iRng1 tr σ H R := h
theorem k_iRng2 {R : It → Hp → Prop} (h : tr σ H fun vs H1 => ∃ i j : Int, vs = [.int i, .int j] ∧ (-(2 ^ 62) ≤ i ∧ i < 2 ^ 62 ∧ -(2 ^ 62) ≤ j ∧ j < 2 ^ 62) ∧ R (Itr i (j - i).toNat) H1) : iRng2 tr σ H R := h
theorem k_rj1 {j : Int} {R : Int → Prop} (h1 : -(2 ^ 62) ≤ j) (h2 : j < 2 ^ 62) (h : R j) : ∃ j' : Int, [V.int j] = [.int j'] ∧ -(2 ^ 62) ≤ j' ∧ j' < 2 ^ 62 ∧ R j' := ⟨j, rfl, h1, h2, h⟩
theorem k_rj2 {i j : Int} {R : Int → Int → Prop} (h1 : -(2 ^ 62) ≤ i ∧ i < 2 ^ 62 ∧ -(2 ^ 62) ≤ j ∧ j < 2 ^ 62) (h : R i j) : ∃ i' j' : Int, [V.int i, V.int j] = [.int i', .int j'] ∧ (-(2 ^ 62) ≤ i' ∧ i' < 2 ^ 62 ∧ -(2 ^ 62) ≤ j' ∧ j' < 2 ^ 62) ∧ R i' j' := ⟨i, j, rfl, h1, h⟩
theorem k_it {c A B : Prop} [Decidable c] (h1 : c → A) (h2 : ¬ c → B) : if decide c = true then A else B := by
  by_cases h : c
  · rw [if_pos (decide_eq_true h)]; exact h1 h
  · rw [decide_eq_false h]; exact h2 h
theorem k_itn {c A B : Prop} [Decidable c] (h1 : ¬ c → A) (h2 : c → B) : if (!decide c) = true then A else B := by
  by_cases h : c
  · rw [decide_eq_true h]; exact h2 h
  · rw [decide_eq_false h]; exact h1 h
theorem k_itb {b : Bool} {A B : Prop} (h1 : b = true → A) (h2 : b = false → B) : if b = true then A else B := by
  cases b with
  | true => exact h1 rfl
  | false => exact h2 rfl
theorem k_isi {x : V} {c : String} {tx : String} {b : Bool} (ht : TyX K H x (.type tx)) (hb : kitB tx c = some b) (h : Q (.bl b) H) : rIsi K [x, .ty c] H Q := ⟨x, .ty c, .type tx, .type c, b, rfl, .ty c, ht, kit_ty hb, h⟩

theorem ty_list {p : Addr} {xs : List V} (h : SqL K H p xs) : TyX K H (.ref p) (.type "list") := by
  rcases h with (h | ⟨o, h⟩) | ⟨o, its, n, h, c, _⟩
  · exact .base (.lst h)
  · exact .base (.frz h)
  · exact .kList h c
theorem k_isiL {p : Addr} {xs : List V} (hs : SqL K H p xs) (h : Q (.bl true) H) : rIsi K [.ref p, .ty "list"] H Q := k_isi (ty_list hs) (by decide +kernel) h
theorem k_isiLI {i : Int} (h : Q (.bl false) H) : rIsi K [.int i, .ty "list"] H Q := k_isi (.base (.int i)) (by decide +kernel) h
theorem k_isiI {i : Int} (h : Q (.bl true) H) : rIsi K [.int i, .ty "int"] H Q := k_isi (.base (.int i)) (by decide +kernel) h
theorem k_isiB {i : Int} (h : Q (.bl false) H) : rIsi K [.int i, .ty "bool"] H Q := k_isi (.base (.int i)) (by decide +kernel) h
theorem inV_ints (x : Int) : ∀ ns : List Int, inV (.int x) (ns.map V.int) = decide (x ∈ ns)
  | [] => rfl
  | n :: r => by
    show (eqV (.int n) (.int x) || inV (.int x) (r.map V.int)) = decide (x ∈ n :: r)
    rw [inV_ints x r]
    show ((n == x) || decide (x ∈ r)) = decide (x ∈ n :: r)
    by_cases h : n = x
    · subst h; simp
    · have : (n == x) = false := by simp [h]
      rw [this, Bool.false_or]
      have h' : ¬ x = n := fun e => h e.symm
      simp [h']
theorem flat_ints : ∀ ns : List Int, (ns.map V.int).all flatV = true
  | [] => rfl
  | _ :: r => by show (true && (r.map V.int).all flatV) = true; rw [flat_ints r]; rfl
theorem k_inI {p : Addr} {ns : List Int} {x : Int} (hs : SqL K H p (ns.map V.int)) (h : Q (.bl (decide (x ∈ ns))) H) : rIn K false (.int x) (.ref p) H Q :=
  ⟨p, _, rfl, .inl hs, rfl, flat_ints ns, by rw [if_neg Bool.false_ne_true, inV_ints]; exact h⟩
theorem k_notInI {p : Addr} {ns : List Int} {x : Int} (hs : SqL K H p (ns.map V.int)) (h : Q (.bl (!decide (x ∈ ns))) H) : rIn K true (.int x) (.ref p) H Q :=
  ⟨p, _, rfl, .inl hs, rfl, flat_ints ns, by rw [if_pos rfl, inV_ints]; exact h⟩
theorem k_intB {b : Bool} (h : Q (.int (if b then 1 else 0)) H) : rIntOf [.bl b] H Q := .inr ⟨b, rfl, h⟩
theorem at_int {ns : List Int} {i : Int} (h0 : 0 ≤ i) (h1 : i < ns.length) : atI (ns.map V.int) i = some (.int (ns.getD i.toNat 0)) := by
  obtain ⟨k, rfl⟩ : ∃ k : Nat, i = k := ⟨i.toNat, by omega⟩
  have h : k < ns.length := by omega
  refine atI_nat ?_
  rw [List.getElem?_map]
  simp [List.getElem?_eq_getElem h, List.getD_eq_getElem?_getD]
theorem k_ixI {p : Addr} {ns : List Int} {i : Int} (hs : SqL K H p (ns.map V.int)) (h0 : 0 ≤ i) (h1 : i < ns.length) (h : Q (.int (ns.getD i.toNat 0)) H) : rIxL K (.ref p) (.int i) H Q := k_ixL hs (at_int h0 h1) h
theorem k_eqD {x y : V} {c d : PyData} {n : Nat} (hx : Dp K H x c) (hy : Dp K H y d) (h1 : Sh n c) (h2 : Sh n d) (hn : n ≤ 64) (h : Q (.bl (PyData.eqv c d)) H) : rEqD K x y H Q := ⟨c, d, hx, hy, h1.shaped hn, h2.shaped hn, h⟩
theorem k_neD {x y : V} {c d : PyData} {n : Nat} (hx : Dp K H x c) (hy : Dp K H y d) (h1 : Sh n c) (h2 : Sh n d) (hn : n ≤ 64) (h : Q (.bl (!PyData.eqv c d)) H) : rNeD K x y H Q := ⟨c, d, hx, hy, h1.shaped hn, h2.shaped hn, h⟩
theorem k_neD0 {x y : V} {c : PyData} {n : Nat} (hx : Dp K H x c) (hy : Dp K H y c) (h1 : Sh n c) (hn : n ≤ 64) (h : Q (.bl false) H) : rNeD K x y H Q := k_neD hx hy h1 h1 hn (by rw [h1.refl]; exact h)
theorem k_eqD1 {x y : V} {c : PyData} {n : Nat} (hx : Dp K H x c) (hy : Dp K H y c) (h1 : Sh n c) (hn : n ≤ 64) (h : Q (.bl true) H) : rEqD K x y H Q := k_eqD hx hy h1 h1 hn (by rw [h1.refl]; exact h)
theorem k_getI {p : Addr} {ns : List Int} {i : Int} (hs : SqL K H p (ns.map V.int)) (h0 : 0 ≤ i) (h1 : i < ns.length) (h : Q (.int (ns.getD i.toNat 0)) H) : rGetL K (.ref p) (.int i) H Q := ⟨p, _, i, _, rfl, rfl, hs, h0, at_int h0 h1, h⟩
theorem k_setI {p : Addr} {ns : List Int} {k v : Int} {QH : Hp → Prop} (hp : H p = some (.lst (ns.map V.int))) (h0 : 0 ≤ k) (h1 : k < ns.length) (h : QH (upd H p (.lst ((ns.set k.toNat v).map V.int)))) : rSetL (.ref p) (.int k) (.int v) H QH :=
  ⟨p, _, k, k.toNat, rfl, rfl, hp, ixN_of h0 (by rw [List.length_map]; exact h1), by rw [List.map_set] at h; exact h⟩
theorem k_rep {p : Addr} {xs : List V} {k : Int} (hp : H p = some (.lst xs)) (h0 : 0 ≤ k) (h1 : k < 100000) (h2 : xs.length * k.toNat ≤ 100000) (h : ∀ l, H l = none → Q (.ref l) (upd H l (.lst (List.replicate k.toNat xs).flatten))) : rRep (.ref p) (.int k) H Q := ⟨p, k, xs, rfl, rfl, hp, by omega, by omega, sz h2, h⟩
theorem k_eqB {a b : Bool} (h : Q (.bl (decide (a = b))) H) : rEq (.bl a) (.bl b) H Q := ⟨rfl, by
  have e : decide (V.bl a = V.bl b) = decide (a = b) := by cases a <;> cases b <;> decide
  rw [e]; exact h⟩
theorem k_neB {a b : Bool} (h : Q (.bl (!decide (a = b))) H) : rNe (.bl a) (.bl b) H Q := ⟨rfl, by
  have e : decide (V.bl a = V.bl b) = decide (a = b) := by cases a <;> cases b <;> decide
  rw [e]; exact h⟩
/-- new objects, the heap behind as a letter -/
theorem k_newL {xs : List V} (hn : xs.length ≤ 100000) (h : ∀ p H', H p = none → Same H H' → H' p = some (.lst xs) → Q (.ref p) H') : xs.length ≤ sizeLine ∧ ∀ p, H p = none → Q (.ref p) (upd H p (.lst xs)) :=
  ⟨sz hn, fun p np => h p _ np (same_new np) upd_same⟩
theorem k_newT {xs : List V} (hn : xs.length ≤ 100000) (h : ∀ p H', H p = none → Same H H' → H' p = some (.tup xs) → Q (.ref p) H') : xs.length ≤ sizeLine ∧ ∀ p, H p = none → Q (.ref p) (upd H p (.tup xs)) :=
  ⟨sz hn, fun p np => h p _ np (same_new np) upd_same⟩
theorem k_listN {p : Addr} {ys : List V} (hs : SqL K H p ys) (h : ∀ l H', H l = none → Same H H' → H' l = some (.lst ys) → Q (.ref l) H') : rListOf K [.ref p] H Q := k_list hs fun l nl => h l _ nl (same_new nl) upd_same
theorem k_slL {a : Addr} {xs : List V} {lo hi : Option Int} (hs : SqL K H a xs) (h : ∀ p H', H p = none → Same H H' → H' p = some (.lst (cutV xs lo hi)) → Q (.ref p) H') : rSlL K (.ref a) lo hi H Q := ⟨a, xs, rfl, hs, fun p np => h p _ np (same_new np) upd_same⟩
theorem k_sl {r : V → Option Int → Option Int → Hp → VK → Prop} {tl th : TO} (h : te σ H fun x H1 => tl σ H1 fun l H2 => th σ H2 fun u H3 => r x l u H3 Q) : tSl r te tl th σ H Q := h
theorem k_nopart {QO : Option Int → Hp → Prop} (h : QO none H) : tNoPart σ H QO := h
theorem k_part {QO : Option Int → Hp → Prop} (h : te σ H fun x H1 => ∃ i, x = .int i ∧ QO (some i) H1) : tPart te σ H QO := h
theorem k_int {i : Int} {R : Int → Prop} (h : R i) : ∃ j, V.int i = .int j ∧ R j := ⟨i, rfl, h⟩
theorem rg_ints (a b : Int) : rgV a b = ((List.range (b - a).toNat).map fun i => a + (i : Nat)).map V.int := by
  unfold rgV; rw [List.map_map]; rfl
theorem k_listRg {tg : L2.St → Hp → (Int → Int → Hp → Prop) → Prop} (h : tg σ H fun a b H1 => RgOk a b ∧ ∀ q, H1 q = none → Q (.ref q) (upd H1 q (.lst (rgV a b)))) : tLstRg tg σ H Q := h
theorem k_rg1 {QR : Int → Int → Hp → Prop} (h : ta σ H fun x H1 => ∃ n, x = .int n ∧ QR 0 n H1) : tRg1 ta σ H QR := h
theorem k_rg2 {QR : Int → Int → Hp → Prop} (h : ta σ H fun x H1 => tb σ H1 fun y H2 => ∃ i j, x = .int i ∧ y = .int j ∧ QR i j H2) : tRg2 ta tb σ H QR := h
theorem k_int2 {i j : Int} {R : Int → Int → Prop} (h : R i j) : ∃ i' j', V.int i = .int i' ∧ V.int j = .int j' ∧ R i' j' := ⟨i, j, rfl, rfl, h⟩
theorem k_rgN {a b : Int} (hr : RgOk a b) (h : ∀ p H', H p = none → Same H H' → H' p = some (.lst (rgV a b)) → Q (.ref p) H') : RgOk a b ∧ ∀ q, H q = none → Q (.ref q) (upd H q (.lst (rgV a b))) := ⟨hr, fun q nq => h q _ nq (same_new nq) upd_same⟩
theorem dp_of_int {i j : Int} (e : i = j) : Dp K H (.int i) (.int j) := e ▸ .int i
end
/-! ### heaps with some places out of sight -/
def hid (S : List Addr) (H : Hp) : Hp := fun b => if b ∈ S then none else H b
theorem hid_ne {S : List Addr} {H : Hp} {b : Addr} (h : b ∉ S) : hid S H b = H b := if_neg h
theorem hid_in {S : List Addr} {H : Hp} {b : Addr} (h : b ∈ S) : hid S H b = none := if_pos h
theorem hid_some {S : List Addr} {H : Hp} {b : Addr} {o : HO} (h : hid S H b = some o) : b ∉ S ∧ H b = some o := by
  unfold hid at h
  split at h
  · cases h
  · exact ⟨by assumption, h⟩
theorem hid_same (S : List Addr) (H : Hp) : Same (hid S H) H := fun b o h => (hid_some h).2
theorem hid_mono {S : List Addr} {H H' : Hp} (e : Same H H') : Same (hid S H) (hid S H') := fun b o h => by
  obtain ⟨n, h⟩ := hid_some h
  rw [hid_ne n]
  exact e b o h
theorem hid_sub {S S' : List Addr} {H : Hp} (h : ∀ a ∈ S, a ∈ S') : Same (hid S' H) (hid S H) := fun b o e => by
  obtain ⟨n, e⟩ := hid_some e
  rw [hid_ne fun z => n (h b z)]
  exact e
/-- a change at a hidden place -/
theorem hid_upd {S : List Addr} {H : Hp} {p : Addr} {o : HO} (h : p ∈ S) : hid S (upd H p o) = hid S H := by
  funext b
  unfold hid
  split
  · rfl
  · rename_i n
    rw [upd_ne fun e => n (by rw [e]; exact h)]
theorem same_hid_upd {S : List Addr} {H0 H : Hp} {p : Addr} {o : HO} (e : Same H0 (hid S H)) (h : p ∈ S) : Same H0 (hid S (upd H p o)) := by rw [hid_upd h]; exact e
/-- what the law's data says stays when a fresh object is changed -/
theorem same_hid_mut {S : List Addr} {H0 H : Hp} {p : Addr} {o : HO} (e : Same H0 (hid S H)) (h : H0 p = none) : Same H0 (hid S (upd H p o)) := fun b u hb => by
  have := e b u hb
  obtain ⟨n, q⟩ := hid_some this
  rw [hid_ne n, upd_ne (ne_of_none hb h)]
  exact q
theorem hid_more {S S' : List Addr} {H H' : Hp} (e : Same (hid S H) (hid S H')) (h : ∀ a ∈ S, a ∈ S') : Same (hid S' H) (hid S' H') := fun b o hb => by
  obtain ⟨n, q⟩ := hid_some hb
  have n' : b ∉ S := fun z => n (h b z)
  have := e b o (by rw [hid_ne n']; exact q)
  rw [hid_ne n'] at this
  rw [hid_ne n]
  exact this
theorem same_hid_new {S : List Addr} {H : Hp} {p : Addr} {o : HO} (h : H p = none) : Same (hid S H) (hid S (upd H p o)) := hid_mono (same_new h)

theorem same_of_hid {S : List Addr} {H0 H1 H2 : Hp} (h : Same H0 H1) (f : ∀ a ∈ S, H0 a = none) (e : Same (hid S H1) (hid S H2)) : Same H0 H2 := fun b o hb => by
  have n : b ∉ S := fun z => by rw [f b z] at hb; cases hb
  have := e b o (by rw [hid_ne n]; exact h b o hb)
  rw [hid_ne n] at this
  exact this
theorem free1 {H0 : Hp} {p : Addr} (h : H0 p = none) : ∀ a ∈ [p], H0 a = none := fun a z => by rw [List.mem_singleton.mp z]; exact h
theorem cutTo {ns : List Int} (k : Nat) : cutV (ns.map V.int) none (some (k : Int)) = (ns.take k).map V.int := by
  unfold cutV
  rw [HT.sIx_none, HT.sIx_nat, List.drop_zero, List.length_map, Nat.sub_zero, List.map_take]
  by_cases h : k ≤ ns.length
  · rw [Nat.min_eq_left h]
  · rw [Nat.min_eq_right (by omega), List.take_of_length_le (by simp), List.take_of_length_le (by simp; omega)]
/-! ### the law's purse: a list of the cells and the turn -/
structure Pu (H : Hp) (pu ce : Addr) (n : Nat) (t : Int) : Prop where
  hp : H pu = some (.lst [.ref ce, .int t])
  hc : ∃ cs : List Int, cs.length = n ∧ H ce = some (.lst (cs.map V.int))
  n0 : 0 < n
  n1 : n ≤ 63
  t0 : 0 ≤ t
theorem Pu.ne {H : Hp} {pu ce : Addr} {n : Nat} {t : Int} (h : Pu H pu ce n t) : pu ≠ ce := fun e => by
  obtain ⟨cs, hl, hc⟩ := h.hc
  have hp := h.hp
  rw [e, hc] at hp
  cases cs with
  | nil => injection hp with hp; injection hp with hp; cases hp
  | cons x r => injection hp with hp; injection hp with hp; injection hp with h1 h2; cases h1
theorem Pu.fresh {H : Hp} {pu ce : Addr} {n : Nat} {t : Int} (h : Pu H pu ce n t) {p : Addr} (np : H p = none) : p ∉ [pu, ce] := fun z => by
  obtain ⟨cs, hl, hc⟩ := h.hc
  rcases List.mem_cons.mp z with rfl | z
  · rw [h.hp] at np; cases np
  · rcases List.mem_cons.mp z with rfl | z
    · rw [hc] at np; cases np
    · cases z
theorem Pu.upd {H : Hp} {pu ce : Addr} {n : Nat} {t : Int} (h : Pu H pu ce n t) {p : Addr} {o : HO} (np : p ∉ [pu, ce]) : Pu (upd H p o) pu ce n t := by
  have h1 : pu ≠ p := fun e => np (by rw [e]; exact List.mem_cons_self)
  have h2 : ce ≠ p := fun e => np (by rw [e]; exact List.mem_cons_of_mem _ List.mem_cons_self)
  obtain ⟨cs, hl, hc⟩ := h.hc
  exact ⟨by rw [upd_ne h1]; exact h.hp, ⟨cs, hl, by rw [upd_ne h2]; exact hc⟩, h.n0, h.n1, h.t0⟩
theorem Pu.same {H H' : Hp} {pu ce : Addr} {n : Nat} {t : Int} (h : Pu H pu ce n t) (e : Same H H') : Pu H' pu ce n t := by
  obtain ⟨cs, hl, hc⟩ := h.hc
  exact ⟨e _ _ h.hp, ⟨cs, hl, e _ _ hc⟩, h.n0, h.n1, h.t0⟩
/-- an object that is none of the purse's stays as it is -/
theorem keeps {S : List Addr} {H H' : Hp} (e : Same (hid S H) (hid S H')) {b : Addr} {o : HO} (hb : H b = some o) (n : b ∉ S) : H' b = some o := by
  have := e b o (by rw [hid_ne n]; exact hb)
  rw [hid_ne n] at this
  exact this
theorem fresh_hid {S : List Addr} {H H' : Hp} (e : Same (hid S H) (hid S H')) {b : Addr} (hb : H' b = none) (n : b ∉ S) : H b = none := by
  have := e.free (l := b) (by rw [hid_ne n]; exact hb)
  rw [hid_ne n] at this
  exact this
theorem getD_set_len {α : Type} (l : List α) (i : Nat) (v : α) : (l.set i v).length = l.length := List.length_set
theorem map_set_int (cs : List Int) (i : Nat) (v : Int) : (cs.map V.int).set i (.int v) = (cs.set i v).map V.int := by rw [List.map_set]

/-! ### the law's other purse: [a number, a mark, how many were drawn] -/
structure Le (H : Hp) (pu : Addr) (k : Int) : Prop where
  hp : ∃ x f : Int, H pu = some (.lst [.int x, .int f, .int k]) ∧ (f = 0 → 0 ≤ x ∧ x < 2147483629)
  k0 : 0 ≤ k
theorem Le.fresh {H : Hp} {pu : Addr} {k : Int} (h : Le H pu k) {p : Addr} (np : H p = none) : p ∉ [pu] := fun z => by
  obtain ⟨x, f, hp, _⟩ := h.hp
  rw [List.mem_singleton.mp z, hp] at np
  cases np
theorem Le.upd {H : Hp} {pu : Addr} {k : Int} (h : Le H pu k) {p : Addr} {o : HO} (np : p ∉ [pu]) : Le (upd H p o) pu k := by
  obtain ⟨x, f, hp, hx⟩ := h.hp
  exact ⟨⟨x, f, by rw [upd_ne fun e => np (by rw [e]; exact List.mem_singleton.mpr rfl)]; exact hp, hx⟩, h.k0⟩
theorem Le.same {H H' : Hp} {pu : Addr} {k : Int} (h : Le H pu k) (e : Same H H') : Le H' pu k := by
  obtain ⟨x, f, hp, hx⟩ := h.hp
  exact ⟨⟨x, f, e _ _ hp, hx⟩, h.k0⟩

/-! ### comprehensions whose block leaves the heap as it is -/
section
variable {K : PySem.W.Frag} {σ : L2.St} {H1 : Hp} {Q : VK} {g : TG} {tt : TT} {te : TE} {vs : List Nat}
theorem k_lc {wi : TI} (h : wi σ H1 fun J H1 => ∀ D, H1 D = none → ∃ W : Nat → Nat → Hp → Prop, (∃ m, W 0 m (upd H1 D (.lst []))) ∧ ∀ i m H, W i m H →
  (J.stop i H ∧ Q (.ref D) H) ∨ (J.go i H ∧ ∃ Nx : Hp → Prop, (∀ H', Nx H' → ∃ m', m' < m ∧ W (i + 1) m' H') ∧ ∀ x H', J.yld i H x H' → g x (wipe σ vs) H' fun σ2 H2 => wipe σ2 vs = wipe σ vs ∧ tt σ2 H2 fun b H3 =>
    if b = true then te σ2 H3 fun y H4 => ∃ acc, H4 D = some (.lst acc) ∧ acc.length < sizeLine ∧ Nx (upd H4 D (.lst (acc ++ [y]))) else Nx H3)) : tLc wi g tt te vs σ H1 Q := h
theorem k_wipe {σ' : L2.St} {R : Prop} (e : wipe σ' vs = wipe σ vs) (h : R) : wipe σ' vs = wipe σ vs ∧ R := ⟨e, h⟩
theorem k_yes {QT : Bool → Hp → Prop} (h : QT true H1) : tYes σ H1 QT := h
theorem take_filterMap {α β : Type} {f : α → Option β} {ps : List α} {i : Nat} {p : α} (h : ps[i]? = some p) : (ps.take (i + 1)).filterMap f = (ps.take i).filterMap f ++ (f p).toList := by
  rw [List.take_add_one, h, List.filterMap_append]
  simp [List.filterMap_cons]
  cases f p <;> rfl
/-- over a list of which ps tells the items -/
theorem lc_pure {QD : Addr → Hp → Prop} {α : Type} {a : Addr} {xs : List V} (hs : SqL K H1 a xs) (ps : List α) (hl : xs.length = ps.length) (hz : ps.length ≤ 50000) (f : α → Option V)
    (step : ∀ (i : Nat) x p H', xs[i]? = some x → ps[i]? = some p → Same H1 H' → ∀ (R : V → Hp → Prop) (R0 : Hp → Prop), (∀ y, f p = some y → R y H') → (f p = none → R0 H') →
      g x (wipe σ vs) H' fun σ2 H2 => wipe σ2 vs = wipe σ vs ∧ tt σ2 H2 fun b H3 => if b = true then te σ2 H3 R else R0 H3)
    (h : ∀ D H', H1 D = none → Same H1 H' → H' D = some (.lst (ps.filterMap f)) → QD D H') :
    ∃ a', V.ref a = .ref a' ∧ (∃ xs, SqL K H1 a' xs) ∧ ∀ D, H1 D = none → ∃ W : Nat → Nat → Hp → Prop, (∃ m, W 0 m (upd H1 D (.lst []))) ∧ ∀ i m H, W i m H →
      ((Itl K a').stop i H ∧ QD D H) ∨ ((Itl K a').go i H ∧ ∃ Nx : Hp → Prop, (∀ H', Nx H' → ∃ m', m' < m ∧ W (i + 1) m' H') ∧ ∀ x H', (Itl K a').yld i H x H' → g x (wipe σ vs) H' fun σ2 H2 => wipe σ2 vs = wipe σ vs ∧ tt σ2 H2 fun b H3 =>
        if b = true then te σ2 H3 fun y H4 => ∃ acc, H4 D = some (.lst acc) ∧ acc.length < sizeLine ∧ Nx (upd H4 D (.lst (acc ++ [y]))) else Nx H3) := by
  refine ⟨a, rfl, ⟨xs, hs⟩, fun D nD => lc_list (xs := xs) (fun i H => Same H1 H ∧ H D = some (.lst ((ps.take i).filterMap f))) ⟨same_new nD, by rw [upd_same]; simp⟩ (fun i H _ e => e.1.seq hs) ?_ ?_⟩
  · rintro i x H hx ⟨sm, hD⟩
    have hi : i < xs.length := (List.getElem?_eq_some_iff.mp hx).1
    obtain ⟨p, hp⟩ : ∃ p, ps[i]? = some p := ⟨ps[i]'(by omega), List.getElem?_eq_getElem (by omega)⟩
    have tk := take_filterMap (f := f) hp
    refine step i x p H hx hp sm _ _ (fun y hy => ⟨_, hD, szl ?_, same_mut sm nD, ?_⟩) (fun hn => ⟨sm, ?_⟩)
    · have := List.length_filterMap_le f (ps.take i)
      rw [List.length_take] at this
      omega
    · rw [upd_same, tk, hy]; rfl
    · rw [tk, hn, hD]; simp
  · rintro H ⟨sm, hD⟩
    rw [hl, List.take_length] at hD
    exact h D H nD sm hD
/-- the same where a turn may make new objects -/
theorem lc_grow {QD : Addr → Hp → Prop} {α : Type} {a : Addr} {xs : List V} (hs : SqL K H1 a xs) (ps : List α) (hl : xs.length = ps.length) (hz : ps.length ≤ 50000) (f : α → Option V)
    (step : ∀ (i : Nat) x p H', xs[i]? = some x → ps[i]? = some p → Same H1 H' → ∀ (R : V → Hp → Prop) (R0 : Hp → Prop), (∀ y H'', f p = some y → Same H' H'' → R y H'') → (∀ H'', f p = none → Same H' H'' → R0 H'') →
      g x (wipe σ vs) H' fun σ2 H2 => wipe σ2 vs = wipe σ vs ∧ tt σ2 H2 fun b H3 => if b = true then te σ2 H3 R else R0 H3)
    (h : ∀ D H', H1 D = none → Same H1 H' → H' D = some (.lst (ps.filterMap f)) → QD D H') :
    ∃ a', V.ref a = .ref a' ∧ (∃ xs, SqL K H1 a' xs) ∧ ∀ D, H1 D = none → ∃ W : Nat → Nat → Hp → Prop, (∃ m, W 0 m (upd H1 D (.lst []))) ∧ ∀ i m H, W i m H →
      ((Itl K a').stop i H ∧ QD D H) ∨ ((Itl K a').go i H ∧ ∃ Nx : Hp → Prop, (∀ H', Nx H' → ∃ m', m' < m ∧ W (i + 1) m' H') ∧ ∀ x H', (Itl K a').yld i H x H' → g x (wipe σ vs) H' fun σ2 H2 => wipe σ2 vs = wipe σ vs ∧ tt σ2 H2 fun b H3 =>
        if b = true then te σ2 H3 fun y H4 => ∃ acc, H4 D = some (.lst acc) ∧ acc.length < sizeLine ∧ Nx (upd H4 D (.lst (acc ++ [y]))) else Nx H3) := by
  refine ⟨a, rfl, ⟨xs, hs⟩, fun D nD => lc_list (xs := xs) (fun i H => Same H1 H ∧ H D = some (.lst ((ps.take i).filterMap f))) ⟨same_new nD, by rw [upd_same]; simp⟩ (fun i H _ e => e.1.seq hs) ?_ ?_⟩
  · rintro i x H hx ⟨sm, hD⟩
    have hi : i < xs.length := (List.getElem?_eq_some_iff.mp hx).1
    obtain ⟨p, hp⟩ : ∃ p, ps[i]? = some p := ⟨ps[i]'(by omega), List.getElem?_eq_getElem (by omega)⟩
    have tk := take_filterMap (f := f) hp
    refine step i x p H hx hp sm _ _ (fun y H'' hy s2 => ⟨_, s2 _ _ hD, szl ?_, same_mut (sm.trans s2) nD, ?_⟩) (fun H'' hn s2 => ⟨sm.trans s2, ?_⟩)
    · have := List.length_filterMap_le f (ps.take i)
      rw [List.length_take] at this
      omega
    · rw [upd_same, tk, hy]; rfl
    · rw [tk, hn, s2 _ _ hD]; simp
  · rintro H ⟨sm, hD⟩
    rw [hl, List.take_length] at hD
    exact h D H nD sm hD
theorem range_take {n i : Nat} (h : i < n) : (List.range n)[i]? = some i := by simp [h]
/-- over a range -/
theorem lc_pureR {QD : Addr → Hp → Prop} {lo : Int} {n : Nat} (hz : n ≤ 50000) (f : Nat → Option V)
    (step : ∀ (i : Nat) H', i < n → Same H1 H' → ∀ (R : V → Hp → Prop) (R0 : Hp → Prop), (∀ y, f i = some y → R y H') → (f i = none → R0 H') →
      g (.int (lo + (i : Nat))) (wipe σ vs) H' fun σ2 H2 => wipe σ2 vs = wipe σ vs ∧ tt σ2 H2 fun b H3 => if b = true then te σ2 H3 R else R0 H3)
    (h : ∀ D H', H1 D = none → Same H1 H' → H' D = some (.lst ((List.range n).filterMap f)) → QD D H') :
    ∀ D, H1 D = none → ∃ W : Nat → Nat → Hp → Prop, (∃ m, W 0 m (upd H1 D (.lst []))) ∧ ∀ i m H, W i m H →
      ((Itr lo n).stop i H ∧ QD D H) ∨ ((Itr lo n).go i H ∧ ∃ Nx : Hp → Prop, (∀ H', Nx H' → ∃ m', m' < m ∧ W (i + 1) m' H') ∧ ∀ x H', (Itr lo n).yld i H x H' → g x (wipe σ vs) H' fun σ2 H2 => wipe σ2 vs = wipe σ vs ∧ tt σ2 H2 fun b H3 =>
        if b = true then te σ2 H3 fun y H4 => ∃ acc, H4 D = some (.lst acc) ∧ acc.length < sizeLine ∧ Nx (upd H4 D (.lst (acc ++ [y]))) else Nx H3) := by
  refine fun D nD => lc_range (fun i H => Same H1 H ∧ H D = some (.lst (((List.range n).take i).filterMap f))) ⟨same_new nD, by rw [upd_same]; simp⟩ ?_ ?_
  · rintro i H hi ⟨sm, hD⟩
    have tk := take_filterMap (f := f) (range_take hi)
    refine step i H hi sm _ _ (fun y hy => ⟨_, hD, szl ?_, same_mut sm nD, ?_⟩) (fun hn => ⟨sm, ?_⟩)
    · have := List.length_filterMap_le f ((List.range n).take i)
      rw [List.length_take, List.length_range] at this
      omega
    · rw [upd_same, tk, hy]; rfl
    · rw [tk, hn, hD]; simp
  · rintro H ⟨sm, hD⟩
    rw [List.take_of_length_le (by simp)] at hD
    exact h D H nD sm hD
end
/-! ### min, max of a pair -/
def rMinT (K : PySem.W.Frag) : List V → Hp → VK → Prop := fun xs H Q => ∃ (p : Addr) (a b : Int), xs = [.ref p] ∧ SqT K H p [.int a, .int b] ∧ Q (.int (min a b)) H
def rMaxT (K : PySem.W.Frag) : List V → Hp → VK → Prop := fun xs H Q => ∃ (p : Addr) (a b : Int), xs = [.ref p] ∧ SqT K H p [.int a, .int b] ∧ Q (.int (max a b)) H
theorem reads_int {h : Heap} {v : Value} {n : Int} {as : List Addr} (r : Reads h v (.int n) as) : ∃ t, v = .int n t := by
  cases r; exact ⟨_, rfl⟩
theorem alike2 (a b : Int) : PySem.W.AlikeAll [.int a, .int b] := by
  refine ⟨fun x hx y hy => ?_, fun x hx => ?_⟩
  · simp only [List.mem_cons, List.not_mem_nil, or_false] at hx hy
    rcases hx with rfl | rfl <;> rcases hy with rfl | rfl <;> rfl
  · simp only [List.mem_cons, List.not_mem_nil, or_false] at hx
    rcases hx with rfl | rfl <;> (intro z; cases z)
theorem q_minT {X : Cx} (hc : X.calm = true) (hu : X.A.units + 64 < cLine) : CallR X (.builtin "min") (rMinT X.K) := by
  intro pins s σ H vs us Q I r h
  obtain ⟨p, a, b, rfl, hs, q⟩ := h
  obtain ⟨its, rv, hl, _⟩ := I.tuple hs
  rw [Vals.ref1 r]
  have ri : IntsAre its [a, b] := Vals.ints (ns := [a, b]) rv
  refine PySem.W.min_tuple_data (x := .int a) (xs := [.int b]) (as := []) (I.ok.hd hc) hl (ri.reads _) (alike2 a b) ?_ fun i v h' tk bs hi rd hk => ?_
  · have : PyData.depthAll [.int a, .int b] = 0 := rfl
    omega
  · rw [show PySem.W.minD (.int a) [.int b] = .int (min a b) from PySem.W.minD_ints a [b]] at rd
    obtain ⟨t, rfl⟩ := reads_int rd
    exact ⟨.int _, H, I.kept hk, ⟨_, rfl⟩, q⟩
theorem q_maxT {X : Cx} (hc : X.calm = true) (hu : X.A.units + 64 < cLine) : CallR X (.builtin "max") (rMaxT X.K) := by
  intro pins s σ H vs us Q I r h
  obtain ⟨p, a, b, rfl, hs, q⟩ := h
  obtain ⟨its, rv, hl, _⟩ := I.tuple hs
  rw [Vals.ref1 r]
  have ri : IntsAre its [a, b] := Vals.ints (ns := [a, b]) rv
  refine PySem.W.max_tuple_data (x := .int a) (xs := [.int b]) (as := []) (I.ok.hd hc) hl (ri.reads _) (alike2 a b) ?_ fun i v h' tk bs hi rd hk => ?_
  · have : PyData.depthAll [.int a, .int b] = 0 := rfl
    omega
  · rw [show PySem.W.maxD (.int a) [.int b] = .int (max a b) from PySem.W.maxD_ints a [b]] at rd
    obtain ⟨t, rfl⟩ := reads_int rd
    exact ⟨.int _, H, I.kept hk, ⟨_, rfl⟩, q⟩
theorem k_minT {K : PySem.W.Frag} {H : Hp} {Q : VK} {p : Addr} {a b : Int} (hs : SqT K H p [.int a, .int b]) (h : Q (.int (min a b)) H) : rMinT K [.ref p] H Q := ⟨p, a, b, rfl, hs, h⟩
theorem k_maxT {K : PySem.W.Frag} {H : Hp} {Q : VK} {p : Addr} {a b : Int} (hs : SqT K H p [.int a, .int b]) (h : Q (.int (max a b)) H) : rMaxT K [.ref p] H Q := ⟨p, a, b, rfl, hs, h⟩
end Cm

namespace Cm
open PySem PySem.Spec PyProof.Rows L2
/-! ### steps of a reading, found by instances -/
class Stp (p : Prop) (q : outParam Prop) : Prop where
  run : q → p
class Stps (p : Prop) (q : outParam Prop) : Prop where
  run : q → p
class Stps1 (p : Prop) (q : outParam Prop) : Prop where
  run : q → p
instance (priority := low) stps_nil {p : Prop} : Stps p p := ⟨id⟩
instance (priority := high) stps_cons {p q r : Prop} [a : Stp p q] [b : Stps q r] : Stps p r := ⟨fun h => a.run (b.run h)⟩
instance stps_one {p q r : Prop} [a : Stp p q] [b : Stps q r] : Stps1 p r := ⟨fun h => a.run (b.run h)⟩
theorem go {p q : Prop} [a : Stps1 p q] (h : q) : p := a.run h
class Slot (σ : L2.St) (i : Nat) (v : outParam V) : Prop where
  get : σ[i]? = some (some v)
instance {v : V} {r : L2.St} : Slot (some v :: r) 0 v := ⟨rfl⟩
instance {x : Option V} {v : V} {r : L2.St} {i : Nat} [a : Slot r i v] : Slot (x :: r) (i + 1) v := ⟨a.get⟩
class Put (σ : L2.St) (i : Nat) (v : Option V) (σ' : outParam L2.St) : Prop where
  eq : σ.set i v = σ'
instance {x v : Option V} {r : L2.St} : Put (x :: r) 0 v (v :: r) := ⟨rfl⟩
instance {x v : Option V} {r r' : L2.St} {i : Nat} [a : Put r i v r'] : Put (x :: r) (i + 1) v (x :: r') := ⟨by rw [List.set_cons_succ, a.eq]⟩
instance {σ σ0 σ' : L2.St} {j : Nat} {w : Option V} {i : Nat} {v : Option V} [a : Put σ j w σ0] [b : Put σ0 i v σ'] : Put (List.set σ j w) i v σ' := ⟨by rw [a.eq, b.eq]⟩
instance {σ σ0 : L2.St} {j : Nat} {w : Option V} {i : Nat} {v : V} [a : Put σ j w σ0] [b : Slot σ0 i v] : Slot (List.set σ j w) i v := ⟨by rw [a.eq, b.get]⟩
class Wip (σ : L2.St) (vs : List Nat) (σ' : outParam L2.St) : Prop where
  eq : wipe σ vs = σ'
instance {σ : L2.St} : Wip σ [] σ := ⟨rfl⟩
instance {σ σ' σ'' : L2.St} {i : Nat} {vs : List Nat} [b : Wip σ vs σ'] [a : Put σ' i none σ''] : Wip σ (i :: vs) σ'' := ⟨by
  show (wipe σ vs).set i none = σ''
  rw [b.eq, a.eq]⟩
instance {σ σ0 σ' : L2.St} {vs : List Nat} {i : Nat} {v : Option V} [a : Wip σ vs σ0] [b : Put σ0 i v σ'] : Put (wipe σ vs) i v σ' := ⟨by rw [a.eq, b.eq]⟩
/-- a new list, a new tuple -/
def newL (xs : List V) (H : Hp) (Q : VK) : Prop := xs.length ≤ sizeLine ∧ ∀ p, H p = none → Q (.ref p) (upd H p (.lst xs))
def newT (xs : List V) (H : Hp) (Q : VK) : Prop := xs.length ≤ sizeLine ∧ ∀ p, H p = none → Q (.ref p) (upd H p (.tup xs))
def newR (a b : Int) (H : Hp) (Q : VK) : Prop := RgOk a b ∧ ∀ q, H q = none → Q (.ref q) (upd H q (.lst (rgV a b)))
theorem kL {xs : List V} {H : Hp} {Q : VK} (hn : xs.length ≤ 100000) (h : ∀ p H', H p = none → Same H H' → H' p = some (.lst xs) → Q (.ref p) H') : newL xs H Q := ⟨sz hn, fun p np => h p _ np (same_new np) upd_same⟩
theorem kT {xs : List V} {H : Hp} {Q : VK} (hn : xs.length ≤ 100000) (h : ∀ p H', H p = none → Same H H' → H' p = some (.tup xs) → Q (.ref p) H') : newT xs H Q := ⟨sz hn, fun p np => h p _ np (same_new np) upd_same⟩
theorem kR {a b : Int} {H : Hp} {Q : VK} (hr : RgOk a b) (h : ∀ p H', H p = none → Same H H' → H' p = some (.lst (rgV a b)) → Q (.ref p) H') : newR a b H Q := ⟨hr, fun q nq => h q _ nq (same_new nq) upd_same⟩
section
variable {K : PySem.W.Frag} {σ σ' : L2.St} {H : Hp} {D : Ends} {Q : VK} {ta tb tc te to ti : TE} {t u : TT} {s1 s2 : TS} {QT : Bool → Hp → Prop} {QA : List V → Hp → Prop} {tr : TA} {QS : L2.St → Hp → Prop} {nx bk ct : L2.St → Hp → Prop} {rt : VK} {g : TG} {gs : TGs} {i j : Nat} {v w : V} {a b : Int} {wi : TI} {tS : TS}
instance : Stp (tSeq s1 s2 ⟨nx, rt, bk, ct⟩ σ H) (s1 ⟨s2 ⟨nx, rt, bk, ct⟩, rt, bk, ct⟩ σ H) := ⟨k_seq⟩
instance : Stp (tNext ⟨nx, rt, bk, ct⟩ σ H) (nx σ H) := ⟨k_next⟩
instance : Stp (tCont ⟨nx, rt, bk, ct⟩ σ H) (ct σ H) := ⟨k_cont⟩
instance : Stp (tBreak ⟨nx, rt, bk, ct⟩ σ H) (bk σ H) := ⟨k_brk⟩
instance : Stp (tAsg te g ⟨nx, rt, bk, ct⟩ σ H) (te σ H fun x H1 => g x σ H1 nx) := ⟨k_asg⟩
instance : Stp (tDrop te ⟨nx, rt, bk, ct⟩ σ H) (te σ H fun _ H1 => nx σ H1) := ⟨k_drop⟩
instance : Stp (tRet te ⟨nx, rt, bk, ct⟩ σ H) (te σ H rt) := ⟨k_ret⟩
instance : Stp (tRetN ⟨nx, rt, bk, ct⟩ σ H) (rt .non H) := ⟨k_retN⟩
instance {f : Int → Int → Int} [e : Slot σ i (.int a)] : Stp (tAug i te (ipI f) ⟨nx, rt, bk, ct⟩ σ H) (te σ H fun y H1 => ipI f (.int a) y H1 fun z H2 => gName i z σ H2 nx) := ⟨fun h => k_aug e.get h⟩
instance {f : Int → Int → Int} : Stp (ipI f (.int a) (.int b) H Q) (Q (.int (f a b)) H) := ⟨k_ipI⟩
instance : Stp (xAugL K to ti te ⟨nx, rt, bk, ct⟩ σ H) (to σ H fun o H1 => ti σ H1 fun i H2 => rGetL K o i H2 fun x H3 => te σ H3 fun y H4 => ipI (fun i j => i + j) x y H4 fun z H5 => rSetL o i z H5 fun H6 => nx σ H6) := ⟨k_augL⟩
instance : Stp (tIfS t s1 s2 D σ H) (t σ H fun b H1 => if b = true then s1 D σ H1 else s2 D σ H1) := ⟨k_if⟩
instance [e : Slot σ i v] : Stp (tVar i σ H Q) (Q v H) := ⟨fun h => k_var e.get h⟩
instance : Stp (tC v σ H Q) (Q v H) := ⟨k_c⟩
instance {r : R2} : Stp (tOp r ta tb σ H Q) (ta σ H fun x H1 => tb σ H1 fun y H2 => r x y H2 Q) := ⟨k_op⟩
instance {r : V → Hp → VK → Prop} : Stp (tUn r ta σ H Q) (ta σ H fun x H1 => r x H1 Q) := ⟨k_un⟩
instance : Stp (xAdd (.int a) (.int b) H Q) (Q (.int (a + b)) H) := ⟨k_add⟩
instance : Stp (xSub (.int a) (.int b) H Q) (Q (.int (a - b)) H) := ⟨k_sub⟩
instance : Stp (xLt (.int a) (.int b) H Q) (Q (.bl (decide (a < b))) H) := ⟨k_lt⟩
instance : Stp (xLe (.int a) (.int b) H Q) (Q (.bl (decide (a ≤ b))) H) := ⟨k_le⟩
instance : Stp (xGt (.int a) (.int b) H Q) (Q (.bl (decide (b < a))) H) := ⟨k_gt⟩
instance : Stp (xGe (.int a) (.int b) H Q) (Q (.bl (decide (b ≤ a))) H) := ⟨k_ge⟩
instance : Stp (xNeg (.int a) H Q) (Q (.int (-a)) H) := ⟨k_neg⟩
instance : Stp (rEq (.int a) (.int b) H Q) (Q (.bl (decide (a = b))) H) := ⟨k_eqI⟩
instance : Stp (rNe (.int a) (.int b) H Q) (Q (.bl (!decide (a = b))) H) := ⟨k_neI⟩
instance {a b : Bool} : Stp (rEq (.bl a) (.bl b) H Q) (Q (.bl (decide (a = b))) H) := ⟨k_eqB⟩
instance {a b : Bool} : Stp (rNe (.bl a) (.bl b) H Q) (Q (.bl (!decide (a = b))) H) := ⟨k_neB⟩
theorem k_eqNN (h : Q (.bl true) H) : rEq .non .non H Q := ⟨rfl, h⟩
theorem k_isN0 (h : Q (.bl true) H) : xIsN .non .non H Q := ⟨rfl, h⟩
theorem k_isNr {p : Addr} (h : Q (.bl false) H) : xIsN (.ref p) .non H Q := ⟨rfl, by rw [decide_eq_false (by intro z; cases z)]; exact h⟩
theorem k_isNi (h : Q (.bl false) H) : xIsN (.int a) .non H Q := ⟨rfl, by rw [decide_eq_false (by intro z; cases z)]; exact h⟩
theorem k_notN0 (h : Q (.bl false) H) : xNotN .non .non H Q := ⟨rfl, h⟩
theorem k_notNr {p : Addr} (h : Q (.bl true) H) : xNotN (.ref p) .non H Q := ⟨rfl, by rw [decide_eq_false (by intro z; cases z)]; exact h⟩
theorem k_notNi (h : Q (.bl true) H) : xNotN (.int a) .non H Q := ⟨rfl, by rw [decide_eq_false (by intro z; cases z)]; exact h⟩
instance : Stp (xIsN .non .non H Q) (Q (.bl true) H) := ⟨k_isN0⟩
instance {p : Addr} : Stp (xIsN (.ref p) .non H Q) (Q (.bl false) H) := ⟨k_isNr⟩
instance : Stp (xIsN (.int a) .non H Q) (Q (.bl false) H) := ⟨k_isNi⟩
instance : Stp (xNotN .non .non H Q) (Q (.bl false) H) := ⟨k_notN0⟩
instance {p : Addr} : Stp (xNotN (.ref p) .non H Q) (Q (.bl true) H) := ⟨k_notNr⟩
instance : Stp (xNotN (.int a) .non H Q) (Q (.bl true) H) := ⟨k_notNi⟩
instance : Stp (tTest te σ H QT) (te σ H fun x H1 => ∃ k, x = .bl k ∧ QT k H1) := ⟨k_test⟩
instance : Stp (tB te σ H QT) (te σ H fun x H1 => ∃ k, x = .bl k ∧ QT k H1) := ⟨k_B⟩
instance {b : Bool} {R : Bool → Prop} : Stp (∃ k, V.bl b = .bl k ∧ R k) (R b) := ⟨k_bl⟩
instance {R : Int → Prop} : Stp (∃ j, V.int a = .int j ∧ R j) (R a) := ⟨k_int⟩
instance {R : Int → Int → Prop} : Stp (∃ i' j', V.int a = .int i' ∧ V.int b = .int j' ∧ R i' j') (R a b) := ⟨k_int2⟩
instance : Stp (tAnd t u σ H QT) (t σ H fun c H1 => if c = true then u σ H1 QT else QT false H1) := ⟨k_and⟩
instance : Stp (tOr t u σ H QT) (t σ H fun c H1 => if c = true then QT true H1 else u σ H1 QT) := ⟨k_or⟩
instance : Stp (tNot t σ H QT) (t σ H fun c H1 => QT (!c) H1) := ⟨k_not⟩
instance : Stp (tNotV ta σ H Q) (ta σ H fun x H1 => ∃ c, x = .bl c ∧ Q (.bl (!c)) H1) := ⟨k_notV⟩
instance : Stp (tAndV ta tb σ H Q) (ta σ H fun x H1 => ∃ c, x = .bl c ∧ if c = true then tb σ H1 Q else Q (.bl false) H1) := ⟨k_andV⟩
instance : Stp (tOrV ta tb σ H Q) (ta σ H fun x H1 => ∃ c, x = .bl c ∧ if c = true then Q (.bl true) H1 else tb σ H1 Q) := ⟨k_orV⟩
instance {r : List V → Hp → VK → Prop} : Stp (tCB r tr σ H Q) (tr σ H fun vs H1 => r vs H1 Q) := ⟨k_cb⟩
instance : Stp (tNil σ H QA) (QA [] H) := ⟨k_nil⟩
instance : Stp (tCons ta tr σ H QA) (ta σ H fun x H1 => tr σ H1 fun xs H2 => QA (x :: xs) H2) := ⟨k_cons⟩
instance {sp : Sp} {E : XK} : Stp (tCall sp [] E tr σ H Q) (tr σ H fun vs H1 => sp vs H1 Q E) := ⟨fun h => k_call (by simpa only [List.append_nil] using h)⟩
instance : Stp (tLst tr σ H Q) (tr σ H fun xs H1 => newL xs H1 Q) := ⟨k_lst⟩
instance : Stp (tTup tr σ H Q) (tr σ H fun xs H1 => newT xs H1 Q) := ⟨k_tup⟩
instance {r : List V} : Stp (gCons g gs (v :: r) σ H QS) (g v σ H fun σ' H' => gs r σ' H' QS) := ⟨k_gcons⟩
instance : Stp (gNil [] σ H QS) (QS σ H) := ⟨k_gnil⟩
instance [e : Put σ i (some v) σ'] : Stp (gName i v σ H QS) (QS σ' H) := ⟨fun h => k_gname (by rw [e.eq]; exact h)⟩
instance {ts : TSet} : Stp (gSub to ti ts v σ H QS) (to σ H fun o H1 => ti σ H1 fun i H2 => ts o i v H2 fun H3 => QS σ H3) := ⟨k_gsub⟩
instance : Stp (rMax2 [.int a, .int b] H Q) (Q (.int (if b > a then b else a)) H) := ⟨k_max2⟩
instance : Stp (rMin2 [.int a, .int b] H Q) (Q (.int (if b < a then b else a)) H) := ⟨k_min2⟩
instance {T : String} {r : V → List V → Hp → VK → Prop} : Stp (tBM K T r ta tr σ H Q) (ta σ H fun x H1 => tyV K T x H1 ∧ tr σ H1 fun xs H2 => r x xs H2 Q) := ⟨k_bm⟩
instance {T : String} {r : V → List V → Hp → VK → Prop} : Stp (tBM0 K T r ta σ H Q) (ta σ H fun x H1 => tyV K T x H1 ∧ r x [] H1 Q) := ⟨k_bm0⟩
instance {A B : Prop} {i : Decidable (true = true)} : Stp (@ite Prop (true = true) i A B) A := ⟨fun h => by rw [if_pos rfl]; exact h⟩
instance {A B : Prop} {i : Decidable (false = true)} : Stp (@ite Prop (false = true) i A B) B := ⟨fun h => by rw [if_neg (by simp)]; exact h⟩
instance {A B : Prop} {i : Decidable ((!true) = true)} : Stp (@ite Prop ((!true) = true) i A B) B := ⟨fun h => by rw [if_neg (by simp)]; exact h⟩
instance {A B : Prop} {i : Decidable ((!false) = true)} : Stp (@ite Prop ((!false) = true) i A B) A := ⟨fun h => by rw [if_pos (by simp)]; exact h⟩
instance : Stp (tFor wi g tS ⟨nx, rt, bk, ct⟩ σ H) (wi σ H fun J H1 => ∃ W : Nat → Nat → L2.St → Hp → Prop, (∃ m, W 0 m σ H1) ∧ ∀ i m σ H, W i m σ H →
  (J.stop i H ∧ nx σ H) ∨ (J.go i H ∧ ∃ N : L2.St → Hp → Prop, (∀ σ' H', N σ' H' → ∃ m', m' < m ∧ W (i + 1) m' σ' H') ∧ ∀ x H', J.yld i H x H' → g x σ H' fun σ2 H2 => tS ⟨N, rt, nx, N⟩ σ2 H2)) := ⟨k_for⟩
instance {R : It → Hp → Prop} : Stp (iList K te σ H R) (te σ H fun x H1 => ∃ a, x = .ref a ∧ (∃ xs, SqL K H1 a xs) ∧ R (Itl K a) H1) := ⟨k_iList⟩
instance {R : It → Hp → Prop} : Stp (iTup K te σ H R) (te σ H fun x H1 => ∃ a, x = .ref a ∧ (∃ xs, SqT K H1 a xs) ∧ R (Itt K a) H1) := ⟨k_iTup⟩
instance {R : It → Hp → Prop} : Stp (iZip K tr σ H R) (tr σ H fun vs H1 => ∃ a b xs ys, vs = [.ref a, .ref b] ∧ SqL K H1 a xs ∧ SqL K H1 b ys ∧ R (Itz K a b) H1) := ⟨k_iZip⟩
instance {R : It → Hp → Prop} : Stp (iEnum K tr σ H R) (tr σ H fun vs H1 => ∃ a xs, vs = [.ref a] ∧ SqL K H1 a xs ∧ R (Ite K a) H1) := ⟨k_iEnum⟩
instance {R : It → Hp → Prop} : Stp (iRng1 tr σ H R) (tr σ H fun vs H1 => ∃ j : Int, vs = [.int j] ∧ -(2 ^ 62) ≤ j ∧ j < 2 ^ 62 ∧ R (Itr 0 j.toNat) H1) := ⟨k_iRng1⟩
instance {R : It → Hp → Prop} : Stp (iRng2 tr σ H R) (tr σ H fun vs H1 => ∃ i j : Int, vs = [.int i, .int j] ∧ (-(2 ^ 62) ≤ i ∧ i < 2 ^ 62 ∧ -(2 ^ 62) ≤ j ∧ j < 2 ^ 62) ∧ R (Itr i (j - i).toNat) H1) := ⟨k_iRng2⟩
instance {vs : List Nat} : Stp (tLc wi g t te vs σ H Q) (wi σ H fun J H1 => ∀ D, H1 D = none → ∃ W : Nat → Nat → Hp → Prop, (∃ m, W 0 m (upd H1 D (.lst []))) ∧ ∀ i m H, W i m H →
  (J.stop i H ∧ Q (.ref D) H) ∨ (J.go i H ∧ ∃ Nx : Hp → Prop, (∀ H', Nx H' → ∃ m', m' < m ∧ W (i + 1) m' H') ∧ ∀ x H', J.yld i H x H' → g x (wipe σ vs) H' fun σ2 H2 => wipe σ2 vs = wipe σ vs ∧ t σ2 H2 fun b H3 =>
    if b = true then te σ2 H3 fun y H4 => ∃ acc, H4 D = some (.lst acc) ∧ acc.length < sizeLine ∧ Nx (upd H4 D (.lst (acc ++ [y]))) else Nx H3)) := ⟨k_lc⟩
instance : Stp (tYes σ H QT) (QT true H) := ⟨k_yes⟩
instance {r : V → Option Int → Option Int → Hp → VK → Prop} {tl th : TO} : Stp (tSl r te tl th σ H Q) (te σ H fun x H1 => tl σ H1 fun l H2 => th σ H2 fun u H3 => r x l u H3 Q) := ⟨k_sl⟩
instance {QO : Option Int → Hp → Prop} : Stp (tNoPart σ H QO) (QO none H) := ⟨k_nopart⟩
instance {QO : Option Int → Hp → Prop} : Stp (tPart te σ H QO) (te σ H fun x H1 => ∃ i, x = .int i ∧ QO (some i) H1) := ⟨k_part⟩
instance {tg : L2.St → Hp → (Int → Int → Hp → Prop) → Prop} : Stp (tLstRg tg σ H Q) (tg σ H fun a b H1 => newR a b H1 Q) := ⟨k_listRg⟩
instance {QR : Int → Int → Hp → Prop} : Stp (tRg1 ta σ H QR) (ta σ H fun x H1 => ∃ n, x = .int n ∧ QR 0 n H1) := ⟨k_rg1⟩
instance {QR : Int → Int → Hp → Prop} : Stp (tRg2 ta tb σ H QR) (ta σ H fun x H1 => tb σ H1 fun y H2 => ∃ i j, x = .int i ∧ y = .int j ∧ QR i j H2) := ⟨k_rg2⟩
instance : Stp (rIsi K [.int a, .ty "int"] H Q) (Q (.bl true) H) := ⟨k_isiI⟩
instance : Stp (rIsi K [.int a, .ty "bool"] H Q) (Q (.bl false) H) := ⟨k_isiB⟩
instance : Stp (rIsi K [.int a, .ty "list"] H Q) (Q (.bl false) H) := ⟨k_isiLI⟩
instance {b : Bool} : Stp (rIntOf [.bl b] H Q) (Q (.int (if b then 1 else 0)) H) := ⟨k_intB⟩
theorem k_chain {r r' : R2} (h : ta σ H fun x H1 => tb σ H1 fun y H2 => r x y H2 fun z H3 => ∃ k, z = .bl k ∧ if k = true then tc σ H3 fun z H4 => r' y z H4 Q else Q (.bl false) H3) : tChain r r' ta tb tc σ H Q := h
instance {r r' : R2} : Stp (tChain r r' ta tb tc σ H Q) (ta σ H fun x H1 => tb σ H1 fun y H2 => r x y H2 fun z H3 => ∃ k, z = .bl k ∧ if k = true then tc σ H3 fun z H4 => r' y z H4 Q else Q (.bl false) H3) := ⟨k_chain⟩
theorem k_ifE (h : t σ H fun c H1 => if c = true then ta σ H1 Q else tb σ H1 Q) : tIf t ta tb σ H Q := h
instance : Stp (tIf t ta tb σ H Q) (t σ H fun c H1 => if c = true then ta σ H1 Q else tb σ H1 Q) := ⟨k_ifE⟩
def par2 (i j : Nat) (vs : List V) (σ : L2.St) (H : Hp) (nx : L2.St → Hp → Prop) : Prop := ∃ v w, vs = [v, w] ∧ nx ((σ.set i (some v)).set j (some w)) H
instance : Stp (tPar i j tr ⟨nx, rt, bk, ct⟩ σ H) (tr σ H fun vs H1 => par2 i j vs σ H1 nx) := ⟨fun h => h⟩
instance {σ'' : L2.St} [e : Put σ i (some v) σ'] [e2 : Put σ' j (some w) σ''] : Stp (par2 i j [v, w] σ H nx) (nx σ'' H) := ⟨fun h => ⟨v, w, rfl, by rw [e.eq, e2.eq]; exact h⟩⟩
end
/-! ### list.count of flat values -/
def cntV (y : V) (ys : List V) : Nat := ys.countP fun z => eqV z y
def rCntV (K : PySem.W.Frag) : V → List V → Hp → VK → Prop := fun x xs H Q => ∃ (a : Addr) (ys : List V) (y : V), x = V.ref a ∧ xs = [y] ∧ SqL K H a ys ∧ flatV y = true ∧ ys.all flatV = true ∧ Q (.int (cntV y ys : Nat)) H
theorem cntV_eq {y : V} : ∀ {ys : List V} {its : List Value}, Vals ys its → ys.all flatV = true → its.countP (eqU y) = cntV y ys
  | _, _, .nil, _ => rfl
  | a :: as, _ :: _, .cons r rs, f => by
    have f1 : flatV a = true ∧ as.all flatV = true := by simpa using f
    unfold cntV
    rw [List.countP_cons, List.countP_cons, eqU_of r f1.1, cntV_eq rs f1.2]
    rfl
theorem mt_lcountV {X : Cx} : MtR X "list.count" (rCntV X.K) := by
  intro pins s σ H x xs v us Q I rx rxs h
  obtain ⟨a, ys, y, rfl, rfl, hs, fy, fys, q⟩ := h
  cases rx
  cases rxs with
  | cons ry rt =>
    rename_i uy ut
    cases rt
    obtain ⟨its, rv, ⟨⟨cls, dd, data, sl⟩, n, ho, hc, hdn, hd⟩, hlen⟩ := I.list hs
    simp only at hc hd
    subst hc hd
    refine call_meets PySem.F.slot_list_count ⟨_, ho, rfl⟩ PySem.F.entry_list_count (PySem.F.args_list_count_2 _ _)
      (SeqAt.list_countAt a its.toArray n dd sl uy (eqU y)) ⟨ho, fun u' hu' => mem_eqAt ry fy rv fys u' (by simpa using hu'), ?_⟩
    have ec : its.toArray.toList.countP (eqU y) = cntV y ys := cntV_eq rv fys
    refine ⟨.int (cntV y ys : Nat), H, I.tok _, ⟨s.toks, ?_⟩, q⟩
    show Value.int ((its.toArray.toList.countP (eqU y) : Nat) : Int) s.toks = Value.int ((cntV y ys : Nat) : Int) s.toks
    rw [ec]
section
variable {K : PySem.W.Frag} {H : Hp} {Q : VK}
theorem k_catN {p q : Addr} {xs ys : List V} (hp : H p = some (.lst xs)) (hq : H q = some (.lst ys)) (hz : xs.length + ys.length ≤ 100000) (h : ∀ l H', H l = none → Same H H' → H' l = some (.lst (xs ++ ys)) → Q (.ref l) H') : rCat (.ref p) (.ref q) H Q := k_cat hp hq hz fun l nl => h l _ nl (same_new nl) upd_same
theorem k_cntV {p : Addr} {ys : List V} {y : V} (hs : SqL K H p ys) (fy : flatV y = true) (fys : ys.all flatV = true) (h : Q (.int (cntV y ys : Nat)) H) : rCntV K (.ref p) [y] H Q := ⟨p, ys, y, rfl, rfl, hs, fy, fys, h⟩
theorem k_indexV {p : Addr} {ys : List V} {y z : V} {j : Nat} (hs : SqL K H p ys) (fy : flatV y = true) (fys : ys.all flatV = true) (hj : ys[j]? = some z) (hz : eqV z y = true) (hn : ∀ (m : Nat) (z' : V), m < j → ys[m]? = some z' → eqV z' y = false) (h : Q (.int (j : Nat)) H) : rIndex K (.ref p) [y] H Q := ⟨p, ys, y, j, z, rfl, rfl, hs, fy, fys, hj, hz, hn, h⟩
theorem k_sortedN {a : Addr} {ns : List Int} (hs : SqL K H a (ns.map V.int)) (h : ∀ (ns' : List Int) (p : Addr) H', ns'.Perm ns → ns'.Pairwise (· ≤ ·) → H p = none → Same H H' → H' p = some (.lst (ns'.map V.int)) → Q (.ref p) H') : rSortedI K [.ref a] H Q := k_sortedI hs fun ns' p h1 h2 h3 => h ns' p _ h1 h2 h3 (same_new h3) upd_same
end
/-! ### facts of older heaps -/
theorem hid_back {S : List Addr} {X Y : Hp} (h : Same X (hid S Y)) : Same X Y := h.trans (hid_same S Y)
theorem at_same {X Y : Hp} {p : Addr} {o : HO} (h : X p = some o) (s : Same X Y) : Y p = some o := s _ _ h
theorem sl_at {K : PySem.W.Frag} {X Y : Hp} {p : Addr} {xs : List V} (h : X p = some (.lst xs)) (s : Same X Y) : SqL K Y p xs := sl (s _ _ h)
theorem st_at {K : PySem.W.Frag} {X Y : Hp} {p : Addr} {xs : List V} (h : X p = some (.tup xs)) (s : Same X Y) : SqT K Y p xs := stp (s _ _ h)
theorem dpI_at {K : PySem.W.Frag} {X Y : Hp} {p : Addr} {ns : List Int} (h : X p = some (.lst (ns.map V.int))) (s : Same X Y) : Dp K Y (.ref p) (dInts ns) := dp_of_ints (sl (s _ _ h))
theorem dpP_at {K : PySem.W.Frag} {X Y : Hp} {p : Addr} {a b : Int} (h : X p = some (.tup [.int a, .int b])) (s : Same X Y) : Dp K Y (.ref p) (dPair (a, b)) := dp_of_pair (stp (s _ _ h))
theorem hid_free {S : List Addr} {H : Hp} (f : ∀ a ∈ S, H a = none) : Same H (hid S H) := fun b o hb => by
  rw [hid_ne fun z => by rw [f b z] at hb; cases hb]; exact hb
theorem hid_free1 {p : Addr} {H : Hp} (f : H p = none) : Same H (hid [p] H) := hid_free (free1 f)
theorem cut_to (xs : List V) (k : Nat) : cutV xs none (some (k : Int)) = xs.take k := by
  unfold cutV
  rw [HT.sIx_none, HT.sIx_nat, List.drop_zero, Nat.sub_zero]
  by_cases h : k ≤ xs.length
  · rw [Nat.min_eq_left h]
  · rw [Nat.min_eq_right (by omega), List.take_of_length_le (by simp), List.take_of_length_le (by omega)]
theorem cut_from (xs : List V) (k : Nat) : cutV xs (some (k : Int)) none = xs.drop k := by
  unfold cutV
  rw [HT.sIx_none, HT.sIx_nat]
  by_cases h : k ≤ xs.length
  · rw [Nat.min_eq_left h]
    exact List.take_of_length_le (by simp)
  · rw [Nat.min_eq_right (by omega), List.drop_of_length_le (Nat.le_refl _), List.drop_of_length_le (by omega), List.take_nil]
theorem dpa_take {K : PySem.W.Frag} {H : Hp} : ∀ {vs : List V} {ds : List PyData} (n : Nat), DpAll K H vs ds → DpAll K H (vs.take n) (ds.take n)
  | _, _, 0, _ => by simp only [List.take_zero]; exact .nil
  | _, _, n + 1, .nil => by simp only [List.take_nil]; exact .nil
  | _, _, n + 1, .cons h r => .cons h (dpa_take n r)
theorem dpa_drop {K : PySem.W.Frag} {H : Hp} : ∀ {vs : List V} {ds : List PyData} (n : Nat), DpAll K H vs ds → DpAll K H (vs.drop n) (ds.drop n)
  | _, _, 0, h => h
  | _, _, n + 1, .nil => by simp only [List.drop_nil]; exact .nil
  | _, _, n + 1, .cons _ r => dpa_drop n r
theorem Le.at {H H' : Hp} {pu p : Addr} {k : Int} {o : HO} (L : Le H pu k) (np : H p = none) (e : H' p = some o) : hid [pu] H' p = some o := by rw [hid_ne (L.fresh np)]; exact e
theorem hat {H : Hp} {pu p : Addr} {o : HO} (np : p ∉ [pu]) (e : H p = some o) : hid [pu] H p = some o := by rw [hid_ne np]; exact e
theorem kLp {xs : List V} {H : Hp} {Q : VK} {pu : Addr} {k : Int} (L : Le H pu k) (hn : xs.length ≤ 100000) (h : ∀ p H', H p = none → Same H H' → hid [pu] H' p = some (.lst xs) → Q (.ref p) H') : newL xs H Q := ⟨sz hn, fun p np => h p _ np (same_new np) (L.at np upd_same)⟩
theorem kTp {xs : List V} {H : Hp} {Q : VK} {pu : Addr} {k : Int} (L : Le H pu k) (hn : xs.length ≤ 100000) (h : ∀ p H', H p = none → Same H H' → hid [pu] H' p = some (.tup xs) → Q (.ref p) H') : newT xs H Q := ⟨sz hn, fun p np => h p _ np (same_new np) (L.at np upd_same)⟩
theorem sh_l2 {n : Nat} {c d : PyData} (h1 : Sh n c) (h2 : Sh n d) : Sh (n + 1) (.list [c, d]) := sh_list fun x hx => by
  rcases List.mem_cons.mp hx with rfl | hx
  · exact h1
  · rcases List.mem_cons.mp hx with rfl | hx
    · exact h2
    · cases hx
section
variable {K : PySem.W.Frag} {σ : L2.St} {H1 : Hp} {Q : VK} {g : TG} {tt : TT} {te : TE} {vs : List Nat}
/-- over a range, new objects may be made -/
theorem lc_growR {QD : Addr → Hp → Prop} {lo : Int} {n : Nat} (hz : n ≤ 50000) (f : Nat → Option V)
    (step : ∀ (i : Nat) H', i < n → Same H1 H' → ∀ (R : V → Hp → Prop) (R0 : Hp → Prop), (∀ y H'', f i = some y → Same H' H'' → R y H'') → (∀ H'', f i = none → Same H' H'' → R0 H'') →
      g (.int (lo + (i : Nat))) (wipe σ vs) H' fun σ2 H2 => wipe σ2 vs = wipe σ vs ∧ tt σ2 H2 fun b H3 => if b = true then te σ2 H3 R else R0 H3)
    (h : ∀ D H', H1 D = none → Same H1 H' → H' D = some (.lst ((List.range n).filterMap f)) → QD D H') :
    ∀ D, H1 D = none → ∃ W : Nat → Nat → Hp → Prop, (∃ m, W 0 m (upd H1 D (.lst []))) ∧ ∀ i m H, W i m H →
      ((Itr lo n).stop i H ∧ QD D H) ∨ ((Itr lo n).go i H ∧ ∃ Nx : Hp → Prop, (∀ H', Nx H' → ∃ m', m' < m ∧ W (i + 1) m' H') ∧ ∀ x H', (Itr lo n).yld i H x H' → g x (wipe σ vs) H' fun σ2 H2 => wipe σ2 vs = wipe σ vs ∧ tt σ2 H2 fun b H3 =>
        if b = true then te σ2 H3 fun y H4 => ∃ acc, H4 D = some (.lst acc) ∧ acc.length < sizeLine ∧ Nx (upd H4 D (.lst (acc ++ [y]))) else Nx H3) := by
  refine fun D nD => lc_range (fun i H => Same H1 H ∧ H D = some (.lst (((List.range n).take i).filterMap f))) ⟨same_new nD, by rw [upd_same]; simp⟩ ?_ ?_
  · rintro i H hi ⟨sm, hD⟩
    have tk := take_filterMap (f := f) (range_take hi)
    refine step i H hi sm _ _ (fun y H'' hy s2 => ⟨_, s2 _ _ hD, szl ?_, same_mut (sm.trans s2) nD, ?_⟩) (fun H'' hn s2 => ⟨sm.trans s2, ?_⟩)
    · have := List.length_filterMap_le f ((List.range n).take i)
      rw [List.length_take, List.length_range] at this
      omega
    · rw [upd_same, tk, hy]; rfl
    · rw [tk, hn, s2 _ _ hD]; simp
  · rintro H ⟨sm, hD⟩
    rw [List.take_of_length_le (by simp)] at hD
    exact h D H nD sm hD
end
/-- behind an if: what follows is shown once -/
theorem ifjoin {c : Bool} {σ : L2.St} {H : Hp} {s1 s2 : TS} {nx bk ct : L2.St → Hp → Prop} {rt : VK} (G : L2.St → Hp → Prop) (main : ∀ σ H, G σ H → nx σ H) (h : (∀ σ H, G σ H → nx σ H) → if c = true then s1 ⟨nx, rt, bk, ct⟩ σ H else s2 ⟨nx, rt, bk, ct⟩ σ H) : if c = true then s1 ⟨nx, rt, bk, ct⟩ σ H else s2 ⟨nx, rt, bk, ct⟩ σ H := h main
theorem k_repN {H : Hp} {Q : VK} {p : Addr} {xs : List V} {k : Int} (hp : H p = some (.lst xs)) (h0 : 0 ≤ k) (h1 : k < 100000) (h2 : xs.length * k.toNat ≤ 100000) (h : ∀ l H', H l = none → Same H H' → H' l = some (.lst (List.replicate k.toNat xs).flatten) → Q (.ref l) H') : rRep (.ref p) (.int k) H Q := k_rep hp h0 h1 h2 fun l nl => h l _ nl (same_new nl) upd_same
theorem ixN_last {n : Nat} (h : 0 < n) : ixN n (-1) = some (n - 1) := by
  unfold ixN
  rw [if_neg (by omega)]
  split
  · simp; omega
  · omega
theorem ifsjoin {t : TT} {σ : L2.St} {H : Hp} {s1 s2 : TS} {nx bk ct : L2.St → Hp → Prop} {rt : VK} (G : L2.St → Hp → Prop) (main : ∀ σ H, G σ H → nx σ H) (h : (∀ σ H, G σ H → nx σ H) → tIfS t s1 s2 ⟨nx, rt, bk, ct⟩ σ H) : tIfS t s1 s2 ⟨nx, rt, bk, ct⟩ σ H := h main
/-- over a list or a tuple -/
def iAny (w1 w2 : TI) : TI := fun σ H R => w1 σ H R ∨ w2 σ H R
theorem pi_any {X : Cx} {tg it : Expr} {w1 w2 : TI} (h1 : PI X tg it w1) (h2 : PI X tg it w2) : PI X tg it (iAny w1 w2) := ⟨fun pins s σ H R I h => by
  rcases h with h | h
  · exact h1.run pins s σ H R I h
  · exact h2.run pins s σ H R I h⟩
theorem k_inT2 {K : PySem.W.Frag} {H : Hp} {Q : VK} {p : Addr} {x a b : Int} (hs : SqT K H p [.int a, .int b]) (h : Q (.bl (decide (x = a ∨ x = b))) H) : rIn K false (.int x) (.ref p) H Q :=
  ⟨p, _, rfl, .inr hs, rfl, flat_ints [a, b], by
    rw [if_neg Bool.false_ne_true, show ([V.int a, .int b] : List V) = List.map V.int [a, b] from rfl, inV_ints]
    have e : decide (x ∈ [a, b]) = decide (x = a ∨ x = b) := by simp
    rw [e]; exact h⟩
theorem Pu.at {H H' : Hp} {pu ce p : Addr} {n : Nat} {t : Int} {o : HO} (L : Pu H pu ce n t) (np : H p = none) (e : H' p = some o) : hid [pu, ce] H' p = some o := by rw [hid_ne (L.fresh np)]; exact e
theorem kLq {xs : List V} {H : Hp} {Q : VK} {pu ce : Addr} {n : Nat} {t : Int} (L : Pu H pu ce n t) (hn : xs.length ≤ 100000) (h : ∀ p H', H p = none → Same H H' → hid [pu, ce] H' p = some (.lst xs) → Q (.ref p) H') : newL xs H Q := ⟨sz hn, fun p np => h p _ np (same_new np) (L.at np upd_same)⟩
theorem kTq {xs : List V} {H : Hp} {Q : VK} {pu ce : Addr} {n : Nat} {t : Int} (L : Pu H pu ce n t) (hn : xs.length ≤ 100000) (h : ∀ p H', H p = none → Same H H' → hid [pu, ce] H' p = some (.tup xs) → Q (.ref p) H') : newT xs H Q := ⟨sz hn, fun p np => h p _ np (same_new np) (L.at np upd_same)⟩
end Cm

namespace Cm
open PySem PySem.Spec PyProof.Rows L2

/-! ### a caught exception that is kept as a value -/
def ExV (cls : Value) (d : Option Addr) (a : Addr) : HO := .ext fun h => ∃ (oe : Obj) (vs : Array Value), h.get? a = some oe ∧ Zc cls d oe ∧ oe.data = .fields vs
theorem exV_ok {P : Program} {w : World} {H : Hp} {h : Heap} {a : Addr} {cls : Value} {d : Option Addr} {oe : Obj} {vs : Array Value} (he : h.get? a = some oe) (hz : Zc cls d oe) (hd : oe.data = .fields vs) : ObjOk P w H h a (ExV cls d a) :=
  ⟨⟨oe, vs, he, hz, hd⟩, ⟨oe, he⟩, fun h1 h2 ⟨o1, v1, g1, g2, g3⟩ k => ⟨o1, v1, k _ g1, g2, g3⟩⟩
theorem exV_at {P : Program} {w : World} {H : Hp} {h : Heap} {a : Addr} {cls : Value} {d : Option Addr} (hok : HOk P w H h) (e : H a = some (ExV cls d a)) : ∃ (oe : Obj) (vs : Array Value), h.get? a = some oe ∧ Zc cls d oe ∧ oe.data = .fields vs :=
  (hok a _ e).1
section
variable {X : Cx} {pins : List (Addr × Obj)} {σ : L2.St} {H : Hp} {s : Shared}
/-- an object of this def's own time is taken into sight -/
theorem track {a : Addr} {cls : Value} {d : Option Addr} {oe : Obj} {vs : Array Value} (I : Inv X pins σ H s) (he : s.heap.get? a = some oe) (hz : Zc cls d oe) (hd : oe.data = .fields vs) (na : H a = none) (n0 : X.s_0.heap.get? a = none)
    (nL : a ≠ X.env.locals) (np : ∀ p ∈ X.pn ++ pins, p.1 ≠ a) : Inv X pins σ (upd H a (ExV cls d a)) s := by
  have ne : ∀ {b : Addr} {o : HO}, H b = some o → b ≠ a := fun q => ne_of_none q na
  have nb : ∀ b o, X.s_0.heap.get? b = some o → b ≠ a := fun b o q z => by rw [z, n0] at q; cases q
  refine { I with base := ?_, free := ?_, freeC := ?_, pin := ?_, hok := ?_ }
  · have B := I.base
    refine ⟨B.keep, B.slot, fun b o q n x => ?_, B.there, fun b xs q => ?_, fun b o u q => ?_, fun b ps q => ?_⟩
    · rw [upd_ne (nb b o q)]; exact B.free b o q n x
    · have z := B.tups b xs q; rw [upd_ne (ne z)]; exact z
    · have z := B.frzs b o u q; rw [upd_ne (ne z)]; exact z
    · obtain ⟨m, z⟩ := B.tbls b ps q; exact ⟨m, by rw [upd_ne (ne z)]; exact z⟩
  · rw [upd_ne nL.symm]; exact I.free
  · intro x c q
    have nc : c ≠ a := fun z => by
      obtain ⟨v, oc, g1, g2⟩ := I.cell x c q
      rw [z, he] at g1
      cases g1
      rw [hd] at g2
      cases g2
    rw [upd_ne nc]; exact I.freeC x c q
  · intro p hp
    obtain ⟨g1, g2, g3⟩ := I.pin p hp
    exact ⟨g1, by rw [upd_ne (np p hp)]; exact g2, g3⟩
  · intro b u q
    by_cases hb : b = a
    · rw [hb] at q ⊢
      rw [upd_same] at q
      cases q
      exact exV_ok he hz hd
    · rw [upd_ne hb] at q
      exact (I.hok b u q).stay (fun _ _ _ z => z) (fun c z => by rw [upd_ne (ne z)]; exact z) fun c xs z => by rw [upd_ne (ne z)]; exact z
end
/-- what «except x as n: suite» wishes, the exception kept behind it -/
def wKept (K : PySem.W.Frag) (c : Value) (i : Nat) (ts : Addr → Value → Option Addr → TS) (Wout : WX) (D : Ends) : WX := fun cls d σ H =>
  ∃ b, PySem.W.exmOne K cls c = some b ∧
    (b = true → ∀ a, H a = none → ts a cls d ⟨fun σ' H' => D.nx (σ'.set i none) (upd H' a (ExV cls d a)), fun _ _ => False, fun _ _ => False, fun _ _ => False⟩ (σ.set i (some (.ref a))) H) ∧ (b = false → Wout cls d σ H)
section
variable {X : Cx} {x n : Str} {c : Value} {i : Nat} {body suite : List Stmt} {b0 : Stmt} {np pos pos' : Pos} {tb : WX → TS} {ts : Addr → Value → Option Addr → TS} {Wout : WX}
theorem ps_try_kept (hst : X.stack = X.env :: X.outer) (hfm : X.env.frame = some X.env.locals) (hex : X.ex = []) (hN : X.N.Nodup) (hi : X.N[i]? = some n) (hln : X.env.kindOf n = some .local) (hc : Names X x c) (tk : Takes X Wout)
    (hb : ∀ (W : WX) (pn : List (Addr × Obj)) (xe : Value → Shared → Prop), Takes (X.tr pn xe) W → PassesOwn (model X.prog X.w) X.A X.env xe → PSs (X.tr pn xe) body (tb W))
    (hsu : ∀ (a : Addr) (oe : Obj) (cls : Value) (d : Option Addr) (pn : List (Addr × Obj)), Zc cls d oe → (∃ vs, oe.data = .fields vs) → PSs (X.suite a ((a, oe) :: pn)) (b0 :: suite) (ts a cls d)) :
    PS X (.Try body [.ExceptHandler (some (.Name x np)) (some n) (b0 :: suite) pos'] [] [] pos) (fun D σ H => tb (wKept X.K c i ts Wout D) D σ H) := by
  constructor
  intro pins s σ H D I h
  have ok := I.ok
  have frm : X.A.frames = some (X.env :: X.outer) := by rw [← hst]; exact ok.frames
  refine wpAny_Try_except (wpAny_mono ((hb (wKept X.K c i ts Wout D) (X.pn ++ pins) _ (fun u s1 air => ?caught) PassesOwn.looking).run [] s σ H D (I.toTry _) h) (fun f s1 q => ?through) (fun e s1 q => q))
  case through =>
    cases f with
    | next => obtain ⟨σ1, H1, J, q⟩ := q; exact wpAny_execs_nil ⟨σ1, H1, J.ofTry ok, q⟩
    | brk => obtain ⟨σ1, H1, J, q⟩ := q; exact ⟨σ1, H1, J.ofTry ok, q⟩
    | cont => obtain ⟨σ1, H1, J, q⟩ := q; exact ⟨σ1, H1, J.ofTry ok, q⟩
    | ret u => obtain ⟨v, σ1, H1, J, r, q⟩ := q; exact ⟨v, σ1, H1, J.ofTry ok, r, q⟩
  case caught =>
    obtain ⟨a, B, sI, pins1, σ1, H1, cls, d, rfl, J0, ground, up, sky, na, os, bare, b, hcls, yes, no⟩ := air
    have J : Inv X pins σ1 H1 sI := J0.ofTry ok
    rw [show (X.tr (X.pn ++ pins) _).stack = X.stack from rfl, hst] at sky
    have Ba : B.get? a = none := by
      rcases sky with z | z | z
      · exact z.2.1
      · exact z.2.1
      · exact z.2.1
    show wpAny (model X.prog X.w) X.A (noteFrame (.ref a) X.env) _ _ _
    refine Sky.land Zc.steady frm hfm sky fun h2 fly up2 => ?_
    obtain ⟨o2, v2, g2, z2, d2⟩ := fly.there
    have J2 : Inv X pins σ1 H1 { s1 with heap := h2 } := J.landed ground fly.1 (up.trans up2) os bare
    have out : a ∉ frs (X.env :: X.outer) := fun hm => by
      obtain ⟨_, o', e', hnf⟩ := fly.2.2.1.mem hm
      rw [g2] at e'
      cases e'
      exact hnf _ d2
    have nL : a ≠ X.env.locals := fun z => out (List.mem_filterMap.mpr ⟨X.env, List.mem_cons_self, by rw [hfm, z]⟩)
    have nF : a ∉ X.fs := fun hm => by
      obtain ⟨e, he, q⟩ := List.mem_filterMap.mp hm
      exact out (List.mem_filterMap.mpr ⟨e, List.mem_cons_of_mem _ he, q⟩)
    have sIa : sI.heap.get? a = none := by
      cases q : sI.heap.get? a with
      | none => rfl
      | some o =>
        have := ground a o q (by rw [show (X.tr (X.pn ++ pins) _).stack = X.stack from rfl, hst]; exact out)
        rw [Ba] at this; cases this
    have n0 : X.s_0.heap.get? a = none := by
      cases q : X.s_0.heap.get? a with
      | none => rfl
      | some o =>
        obtain ⟨o', q'⟩ := J.base.there a o q (by rw [hex]; simp)
        rw [sIa] at q'; cases q'
    have pinNe : ∀ p ∈ X.pn ++ pins, p.1 ≠ a := fun p hp z => by
      have := (J.pin p hp).1
      rw [z, sIa] at this; cases this
    refine wpAny_handleBy_cons (codeAny_handlers_test ?_) (fun q => by cases q)
    have T2 := J2.suite g2 d2 na nL nF
    have ty : PySem.W.Looks (model X.prog X.w) h2 (typeOf (.ref a)) cls := fun _ _ _ _ k q => wpAny_typeOf_ref (k _ _ g2) (by rw [z2.1]; exact q)
    have named : ∀ {Q : Value → Shared → Prop} {E : Value → Shared → Prop}, Q c { s1 with heap := h2 } → wpAny (model X.prog X.w) (X.A.mark (some (.ref a))) (eval (.Name x np) X.env) Q E { s1 with heap := h2 } := fun {Q E} q => by
      obtain ⟨gl, db, hm | ⟨hm, hv, hn⟩⟩ := hc
      · exact ld_glob (X := X.suite a ((a, o2) :: (X.pn ++ pins))) T2 gl hm q db
      · exact ld_blt (X := X.suite a ((a, o2) :: (X.pn ++ pins))) T2 gl hm hv q hn db
    refine named ((PySem.W.exm_one (M := model X.prog X.w) J2.kIn ty hcls).here ?_)
    cases b with
    | false =>
      show wpAny _ X.A (handleBy (.ref a) X.env []) _ _ _
      refine wpAny_handleBy_nil ?_
      obtain ⟨_, _, _, oe, vs, T, oT, ts', he, hz, hd, h1, hr⟩ := id fly
      unfold PySem.passOn
      refine wpAny_bind (wpAny_field he hd h1 ?_)
      rw [if_neg (show ¬ ((Value.ref T == Value.none) = true) by simp)]
      have on : wpAny (model X.prog X.w) X.A (setFlight (.ref a) X.env.frame) (fun _ s4 => wpAny (model X.prog X.w) X.A (throw (.ref a) : Sem Flow) (SP X pins D) X.xe s4) X.xe { s1 with heap := h2 } := by
        rw [hfm]
        refine HandSPX.setFlight_upZ fly fun h4 hh4 up4 => wpAny_throw (tk _ _ ⟨a, B, sI, pins, σ1, H1, cls, d, rfl, J, ground, (up.trans up2).trans up4, .inr (.inr (by rw [hst]; exact hh4)), na, os, bare, no rfl⟩)
      first
        | exact wpAny_bind (wpAny_pure (wpAny_bind on))
        | exact wpAny_bind on
    | true =>
      refine codeAny_handlers_suite_as (HandSPX.lands_againZ fly fun h3 fly3 up3 => ?_)
      obtain ⟨o3, v3, g3, z3, d3⟩ := fly3.there
      have J3 : Inv X pins σ1 H1 { s1 with heap := h3 } := J.landed ground fly3.1 ((up.trans up2).trans up3) os bare
      refine store_ok (X := X.suite a ((a, o3) :: (X.pn ++ pins))) (v := .ref a) (J3.suite g3 d3 na nL nF) hN hi (.inl hln) rfl (fun s4 S4 => ?_) (.inr hln)
      refine wpAny_mono ((hsu a o3 cls d (X.pn ++ pins) z3 ⟨_, d3⟩).run [] s4 _ H1 _ S4 (yes rfl a na)) (fun f s5 q => ?_) (fun _ _ z => z.elim)
      cases f with
      | brk => obtain ⟨_, _, _, q⟩ := q; exact q.elim
      | cont => obtain ⟨_, _, _, q⟩ := q; exact q.elim
      | ret u => obtain ⟨_, _, _, _, _, q⟩ := q; exact q.elim
      | next =>
        obtain ⟨σ5, H5, S5, q5⟩ := q
        have K5 : Inv X ((a, o3) :: pins) σ5 H5 s5 := ⟨ok, S5.os, S5.bare, S5.base, S5.loc, S5.cell, S5.free, S5.freeC, fun p hp => S5.pin p (by
          rw [List.append_nil]
          rcases List.mem_append.mp hp with hp | hp
          · exact List.mem_cons_of_mem _ (List.mem_append_left _ hp)
          · rcases List.mem_cons.mp hp with hp | hp
            · rw [hp]; exact List.mem_cons_self
            · exact List.mem_cons_of_mem _ (List.mem_append_right _ hp)), S5.hok, S5.len⟩
        refine gone_ok K5 hN hi hln fun s6 K6 => ?_
        obtain ⟨g6, na6, _⟩ := K6.pin (a, o3) (List.mem_append_right _ List.mem_cons_self)
        have K7 : Inv X pins (σ5.set i none) H5 s6 := { K6 with pin := fun p hp => K6.pin p (by
          rcases List.mem_append.mp hp with hp | hp
          · exact List.mem_append_left _ hp
          · exact List.mem_append_right _ (List.mem_cons_of_mem _ hp)) }
        exact ⟨_, _, track K7 g6 z3 d3 na6 n0 nL pinNe, q5⟩
end

/-! ### isinstance of a kept exception, of None and of the other values -/
/-- what an exception class of the program must say, so that its instances are asked rightly -/
structure ExK (K : PySem.W.Frag) (D : Addr) : Prop where
  hg : PySem.W.findIn K (.ref D) "__getattribute__" = some (some (.builtin "BaseException.__getattribute__"))
  hk : PySem.W.findIn K (.ref D) "__getattr__" = some none
  hs : PySem.W.subIn K (.ref D) (.type "BaseException") = some true
  hd : PySem.W.hasDictIn K D = true
  ha : PySem.W.findIn K (.ref D) "__class__" = some (some (.builtin "object.__class__"))
  hn : PySem.W.specialIn K (.builtin "object.__class__") "__get__" = some (some (.builtin "getset_descriptor.__get__"))
  ht : PySem.W.takesIn K (.builtin "object.__class__") = some true
  hm : PySem.W.mroIn K D (.type "object") = some true
def exkB (K : PySem.W.Frag) (D : Addr) : Bool :=
  (PySem.W.findIn K (.ref D) "__getattribute__" == some (some (.builtin "BaseException.__getattribute__"))) && ((PySem.W.findIn K (.ref D) "__getattr__" == some none) && ((PySem.W.subIn K (.ref D) (.type "BaseException") == some true) && (PySem.W.hasDictIn K D &&
  ((PySem.W.findIn K (.ref D) "__class__" == some (some (.builtin "object.__class__"))) && ((PySem.W.specialIn K (.builtin "object.__class__") "__get__" == some (some (.builtin "getset_descriptor.__get__"))) && ((PySem.W.takesIn K (.builtin "object.__class__") == some true) && (PySem.W.mroIn K D (.type "object") == some true)))))))
theorem exkB_ok {K : PySem.W.Frag} {D : Addr} (h : exkB K D = true) : ExK K D := by
  unfold exkB at h
  simp only [Bool.and_eq_true, beq_iff_eq] at h
  obtain ⟨h1, h2, h3, h4, h5, h6, h7, h8⟩ := h
  exact ⟨h1, h2, h3, h4, h5, h6, h7, h8⟩
theorem ExK.xf {K : PySem.W.Frag} {D : Addr} (h : ExK K D) : XfC K D := ⟨h.hg, h.hk, h.hs, h.hd⟩
/-- what is known of a kept exception at a: its class D, its dict's state -/
def KeptAt (H : Hp) (a D : Addr) : Prop := ∃ d : Option Addr, H a = some (ExV (.ref D) d a) ∧ (d = none ∨ ∃ dd fs, d = some dd ∧ H dd = some (.xd fs))
def rIsX (K : PySem.W.Frag) : List V → Hp → VK → Prop := fun xs H Q => ∃ (a D : Addr) (c : V) (cv : Value) (b : Bool), xs = [.ref a, c] ∧ KeptAt H a D ∧ ExK K D ∧ ClsV c cv ∧ PySem.W.kitOne K (.ref D) cv = some b ∧ Q (.bl b) H
def rIsXT (K : PySem.W.Frag) : List V → Hp → VK → Prop := fun xs H Q => ∃ (a D tp : Addr) (cs : List V) (us : List Value) (b : Bool), xs = [.ref a, .ref tp] ∧ KeptAt H a D ∧ ExK K D ∧ H tp = some (.tup cs) ∧ Paired ClsV cs us ∧ PySem.W.kitAny K (.ref D) us = some b ∧ Q (.bl b) H
section
variable {X : Cx} {pins : List (Addr × Obj)} {σ : L2.St} {H : Hp} {s : Shared}
theorem kept_inst {a D : Addr} (I : Inv X pins σ H s) (k : KeptAt H a D) : ∃ ox od, PySem.W.InstAt s.heap a ox D od := by
  obtain ⟨d, e, dd⟩ := k
  obtain ⟨oe, vs, g, z, hd⟩ := exV_at I.hok e
  obtain ⟨oc, od, oda, osl⟩ := oe
  obtain ⟨h1, h2⟩ := z
  dsimp only at h1 h2 hd
  subst h1 h2 hd
  rcases dd with rfl | ⟨dx, fs, rfl, hx⟩
  · exact ⟨_, none, g, rfl, rfl, trivial⟩
  · obtain ⟨mA, ⟨o, es, ep, g2, _⟩, _⟩ := (show ObjOk X.prog X.w H s.heap dx (.xd fs) from I.hok dx _ hx)
    exact ⟨_, some o, g, rfl, rfl, g2⟩
theorem kit_exc {K : PySem.W.Frag} {a D : Addr} {ox : Obj} {od : Option Obj} (C : ExK K D) : PySem.W.KitX K (.ref a) (.ref D) (fun h => PySem.W.InstAt h a ox D od) := by
  have hcl : (PySem.W.clsIn K D).isSome = true := by
    obtain ⟨cd, hc, _⟩ := PySem.W.any_some C.hd
    rw [hc]; rfl
  exact PySem.W.kitx_exc hcl C.hg C.hk C.hs C.ha C.hn C.ht C.hm
theorem call_isX : CallR X (.builtin "isinstance") (rIsX X.K) := by
  intro pins s σ H xs us Q I r h
  obtain ⟨a, D, c, cv, b, rfl, k, C, kc, e, q⟩ := h
  obtain ⟨u1, u2, rfl, r1, r2⟩ := vals2 r
  have e2 := kc.eq r2
  subst e2
  cases (show u1 = Value.ref a from r1)
  obtain ⟨ox, od, J⟩ := kept_inst I k
  exact PySem.W.kia_one (kit_exc C) I.kIn J e (fun z => nomatch z) fun tk => ⟨.bl b, H, I.tok tk, rfl, q⟩
theorem call_isXT : CallR X (.builtin "isinstance") (rIsXT X.K) := by
  intro pins s σ H xs us Q I r h
  obtain ⟨a, D, tp, cs, ws, b, rfl, k, C, hT, kc, e, q⟩ := h
  obtain ⟨u1, u2, rfl, r1, r2⟩ := vals2 r
  cases (show u1 = Value.ref a from r1)
  cases (show u2 = Value.ref tp from r2)
  obtain ⟨ox, od, J⟩ := kept_inst I k
  obtain ⟨_, its, rv, o, h1, h2, n, h3⟩ := (show ObjOk X.prog X.w H s.heap tp (.tup cs) from I.hok tp _ hT)
  have e3 := ClsV.all kc rv
  subst e3
  obtain ⟨oc, od', dt, sl⟩ := o
  simp only at h2 h3
  subst h2 h3
  exact PySem.W.kia_tup (kit_exc C) I.kIn J h1 e (fun z => nomatch z) fun tk => ⟨.bl b, H, I.tok tk, rfl, q⟩
/-- isinstance of anything, one class or a tuple of them -/
def rIsA (K : PySem.W.Frag) : List V → Hp → VK → Prop := fun xs H Q => rIsi K xs H Q ∨ rIsiT K xs H Q ∨ rIsX K xs H Q ∨ rIsXT K xs H Q
theorem q_isA : CallR X (.builtin "isinstance") (rIsA X.K) := by
  intro pins s σ H xs us Q I r h
  rcases h with h | h | h | h
  · exact call_isi pins s σ H xs us Q I r h
  · exact call_isiT pins s σ H xs us Q I r h
  · exact call_isX pins s σ H xs us Q I r h
  · exact call_isXT pins s σ H xs us Q I r h
end

/-! ### a kept exception's field -/
def tXat (K : PySem.W.Frag) (n : Str) (te : TE) : TE := fun σ H Q => te σ H fun x H1 => ∃ (a C dd : Addr) (fs : List (Str × V)) (v : V), x = .ref a ∧ H1 a = some (ExV (.ref C) (some dd) a) ∧ XfC K C ∧ PySem.W.findIn K (.ref C) n = some none ∧ H1 dd = some (.xd fs) ∧ fs.lookup n = some v ∧ Q v H1
theorem pe_xat {X : Cx} {e : Expr} {te : TE} {pos : Pos} {n : Str} (he : PE X e te) (hb : attributeBase e n X.env (eval e X.env) = eval e X.env := by rfl) : PE X (.Attribute e n pos) (tXat X.K n te) := by
  constructor
  intro pins s σ H Q I h
  refine attr_of hb (thn (he.run pins s σ H _ I h) fun u s1 hh => ?_)
  obtain ⟨x, H1, I1, rx, a, C, dd, fs, v, rfl, ea, T, hno, ed, l, q⟩ := hh
  cases (show u = Value.ref a from rx)
  obtain ⟨oe, vs, g, z, hd⟩ := exV_at I1.hok ea
  obtain ⟨mA, hns, hr⟩ := (show ObjOk X.prog X.w H1 s1.heap dd (.xd fs) from I1.hok dd _ ed)
  obtain ⟨od, ho, hl⟩ := lookIn_ns hns
  obtain ⟨u, hu, ru⟩ := RelO.some_of (v := v) (o := mA n) (by rw [← l]; exact hr n)
  have J : PySem.W.InstAt s1.heap a oe C (some od) := ⟨g, z.1, by unfold PySem.W.notCls; rw [hd] <;> rfl, by rw [z.2]; exact ho⟩
  exact HandSPX.exc_get I1.kIn J T.ga T.gg T.exC (PySem.W.findObj_own T.hdC hno rfl (by rw [hl, hu])) (handed_of ru) ⟨v, H1, I1.tok _, ru, q⟩

/-! ### Base.__init__(self, ..) in an own exception's __init__, Base an own class without an __init__ -/
structure BaseI (K : PySem.W.Frag) (mg : Str → Option Value) (B : Addr) (x : Str) : Prop where
  gB : mg x = some (.ref B)
  rd : PySem.W.readsIn K B (.type "type") = true
  ga : PySem.W.specialIn K (.ref B) "__getattribute__" = some (some (.builtin "type.__getattribute__"))
  at_ : PySem.W.findCls K (.ref B) (.type "type") "__init__" = some (.val (.builtin "ValueError.__init__"))
theorem pe_binit {X : Cx} {x : Str} {B : Addr} {e : Expr} {es : List Expr} {ta : TA} {p1 p2 pos : Pos} {pl : Sem Bool} (T : BaseI X.K X.mg B x) (hg : Gl X x) (ha : PA X (e :: es) ta) (hdb : (x == ("__debug__" : Str)) = false := by decide)
    (hc : eval (.Call (.Attribute (.Name x p1) "__init__" p2) (e :: es) [] pos) X.env = (do
      let ov ← eval (.Name x p1) X.env
      standAt p2.atName
      let (f, first) ← holding [ov] (getMethod ov "__init__" pl)
      callWith pos f first (backTo pos (starEach (e :: es) X.env)) (backToKw pos (keywordEach [] X.env))) := by rfl)
    (he : starEach (e :: es) X.env = (false, eval e X.env) :: starEach es X.env := by rfl) (hpl : (backTo pos (starEach es X.env)).any (·.1) = false := by rfl) :
    PE X (.Call (.Attribute (.Name x p1) "__init__" p2) (e :: es) [] pos) (tVeI X.K ta) := by
  constructor
  intro pins s σ H Q I h
  refine PySem.W.methodCall_KW (ld_glob I hg T.gB ?_ hdb) hc
  refine PySem.W.method_cls I.kIn T.ga (PySem.W.cls_value I.kIn T.rd T.at_ (by decide +kernel) ?_)
  show wpAny _ _ (callWith pos (Value.builtin "ValueError.__init__") [] (backTo pos (starEach (e :: es) X.env)) []) _ _ _
  refine PyProof.Rows.callWith_method1 (thn (ha.run pos pins _ σ H _ (I.tok _) h) fun us s1 hh => ?_) he hpl
  obtain ⟨vs, H1, I1, r1, a, C, ws, rfl, hl, O, ea, q⟩ := hh
  cases r1 with
  | @cons _ u0 _ ur ra rr =>
    cases (show u0 = Value.ref a from ra)
    have len : ur.length ≤ sizeLine := by
      have := Paired.length rr
      rw [sizeLine_eq]
      omega
    exact oinit_ok O I1 ea len fun s' J => ⟨.non, H1, J, rfl, q⟩

/-! ### readings of raise, of an exception's own __init__ and of try, step by step -/
/-- raise C('..'), C without an __init__ -/
def tRaiseP (C : Addr) (E : XK) : TS := fun _ _ H => E (.ref C) none H
/-- raise C(e), C with an __init__ that keeps sp -/
def tRaiseO (C : Addr) (sp : Sp) (ta : TA) (E : XK) : TS := fun _ σ H => tMkO C sp [] ta σ H fun cls d H' => E cls d H'
/-- the promise of such an __init__(self, f): the field f is stored -/
def prInit (C : Addr) (f : Str) (v0 v1 : V) (H : Hp) (Q : VK) : Prop := ∃ a, v0 = .ref a ∧ H a = some (exo a C none) ∧ ∀ dx, H dx = none → dx ≠ a → Q .non (upd (upd H dx (exd dx [(f, v1)])) a (exo a C (some dx)))
def spInit (C : Addr) (f : Str) : Sp := fun vs H Q _ => ∃ v0 v1, vs = [v0, v1] ∧ prInit C f v0 v1 H Q
/-- try: .. except c as n: m = n (n in slot i, m in slot j) -/
def tTryK (K : PySem.W.Frag) (c : Value) (i j : Nat) (tb : WX → TS) : TS := fun D σ H => tb (wKept K c i (fun _ _ _ => tAsg (tVar i) (gName j)) (fun _ _ _ _ => False) D) D σ H
section
variable {K : PySem.W.Frag} {σ : L2.St} {H : Hp} {D : Ends} {E : XK} {C : Addr} {f : Str}
theorem k_raiseP (h : E (.ref C) none H) : tRaiseP C E D σ H := h
theorem heap_made {H : Hp} {a d : Addr} {o1 o2 o3 o4 : HO} (na : H a = none) (ne : d ≠ a) : upd (L2.del (upd (upd (upd H a o1) d o2) a o3) a) d o4 = upd H d o4 := by
  funext b
  by_cases h1 : b = d
  · rw [h1, upd_same, upd_same]
  · rw [upd_ne h1, upd_ne h1]
    by_cases h2 : b = a
    · rw [h2, L2.del_same, na]
    · rw [L2.del_ne h2, upd_ne h2, upd_ne h1, upd_ne h2]
theorem exo_ne_exd {a d C : Addr} {fs : List (Str × V)} : True := trivial
theorem k_raiseO {ta : TA} {v : V} (hta : ∀ (R : List V → Hp → Prop), R [v] H → ta σ H R) (h : ∀ d, H d = none → E (.ref C) (some d) (upd H d (.xd [(f, v)]))) : tRaiseO C (spInit C f) ta E D σ H := by
  refine hta _ ⟨(by show 1 ≤ 1000; decide), fun a na => ?_⟩
  refine ⟨.ref a, v, rfl, a, rfl, upd_same, fun dx ndx ne => ⟨rfl, dx, [(f, v)], upd_same, ?_, ?_, ?_⟩⟩
  · rw [upd_ne ne, upd_same]
  · rw [upd_ne ne] at ndx; exact ndx
  · rw [heap_made na ne]
    rw [upd_ne ne] at ndx
    exact h dx ndx
theorem k_try {i j : Nat} {tb : WX → TS} (h : tb (wKept K (.ref C) i (fun _ _ _ => tAsg (tVar i) (gName j)) (fun _ _ _ _ => False) D) D σ H) : tTryK K (.ref C) i j tb D σ H := h
theorem k_callS {sp : Sp} {W : WX} {tr : TA} {Q : VK} (h : tr σ H fun vs H1 => sp vs H1 Q (WE W σ)) : tCallS sp (WE W) tr σ H Q := h
/-- the exception is one of the clause's -/
theorem k_caught {c : Value} {i j : Nat} {cls : Value} {d : Option Addr} {nx : L2.St → Hp → Prop} {rt : VK} {bk ct : L2.St → Hp → Prop} (hi : i < σ.length) (hc : PySem.W.exmOne K cls c = some true)
    (h : ∀ a, H a = none → nx (((σ.set i (some (.ref a))).set j (some (.ref a))).set i none) (upd H a (ExV cls d a))) : wKept K c i (fun _ _ _ => tAsg (tVar i) (gName j)) (fun _ _ _ _ => False) ⟨nx, rt, bk, ct⟩ cls d σ H :=
  ⟨true, hc, fun _ a na => ⟨.ref a, by rw [List.getElem?_set_self hi], h a na⟩, fun z => Bool.noConfusion z⟩
theorem k_isXone {xs : List V} {Q : VK} {a D : Addr} {c : V} {cv : Value} {b : Bool} (k : KeptAt H a D) (e : ExK K D) (kc : ClsV c cv) (h1 : PySem.W.kitOne K (.ref D) cv = some b) (h : Q (.bl b) H) : rIsA K [.ref a, c] H Q := .inr (.inr (.inl ⟨a, D, c, cv, b, rfl, k, e, kc, h1, h⟩))
theorem k_isXtup {Q : VK} {a D tp : Addr} {cs : List V} {us : List Value} {b : Bool} (k : KeptAt H a D) (e : ExK K D) (hT : H tp = some (.tup cs)) (kc : Paired ClsV cs us) (h1 : PySem.W.kitAny K (.ref D) us = some b) (h : Q (.bl b) H) : rIsA K [.ref a, .ref tp] H Q := .inr (.inr (.inr ⟨a, D, tp, cs, us, b, rfl, k, e, hT, kc, h1, h⟩))
theorem k_isNone {Q : VK} {c : V} {cv : Value} {b : Bool} (kc : ClsV c cv) (h1 : PySem.W.kitOne K (.type "NoneType") cv = some b) (h : Q (.bl b) H) : rIsA K [.non, c] H Q := .inl ⟨_, _, _, _, b, rfl, kc, .base .non, h1, h⟩
theorem k_isOne {Q : VK} {xs : List V} (h : rIsi K xs H Q) : rIsA K xs H Q := .inl h
theorem k_xat {n : Str} {te : TE} {Q : VK} (h : te σ H fun x H1 => ∃ (a C dd : Addr) (fs : List (Str × V)) (v : V), x = .ref a ∧ H1 a = some (ExV (.ref C) (some dd) a) ∧ XfC K C ∧ PySem.W.findIn K (.ref C) n = some none ∧ H1 dd = some (.xd fs) ∧ fs.lookup n = some v ∧ Q v H1) : tXat K n te σ H Q := h
theorem exV_kept {a : Addr} {D : Addr} {d : Option Addr} {H : Hp} (h : H a = some (ExV (.ref D) d a)) (hd : d = none ∨ ∃ dd fs, d = some dd ∧ H dd = some (.xd fs)) : KeptAt H a D := ⟨d, h, hd⟩
end
section
variable {K : PySem.W.Frag} {σ : L2.St} {H : Hp} {D : Ends} {E : XK} {C : Addr} {f : Str} {Q : VK} {te : TE} {tr : TA}
instance {i j : Nat} {tb : WX → TS} : Stp (tTryK K (.ref C) i j tb D σ H) (tb (wKept K (.ref C) i (fun _ _ _ => tAsg (tVar i) (gName j)) (fun _ _ _ _ => False) D) D σ H) := ⟨k_try⟩
instance {sp : Sp} {W : WX} : Stp (tCallS sp (WE W) tr σ H Q) (tr σ H fun vs H1 => sp vs H1 Q (WE W σ)) := ⟨k_callS⟩
instance {n : Str} : Stp (tXat K n te σ H Q) (te σ H fun x H1 => ∃ (a C dd : Addr) (fs : List (Str × V)) (v : V), x = .ref a ∧ H1 a = some (ExV (.ref C) (some dd) a) ∧ XfC K C ∧ PySem.W.findIn K (.ref C) n = some none ∧ H1 dd = some (.xd fs) ∧ fs.lookup n = some v ∧ Q v H1) := ⟨k_xat⟩
instance : Stp (tRaiseP C E D σ H) (E (.ref C) none H) := ⟨k_raiseP⟩
/-- what follows a caught exception is shown once -/
theorem tryjoin {i j : Nat} {tb : WX → TS} (G : Value → Option Addr → L2.St → Hp → Prop) (rest : ∀ cls d σ' H', G cls d σ' H' → wKept K (.ref C) i (fun _ _ _ => tAsg (tVar i) (gName j)) (fun _ _ _ _ => False) D cls d σ' H')
    (h : (∀ cls d σ' H', G cls d σ' H' → wKept K (.ref C) i (fun _ _ _ => tAsg (tVar i) (gName j)) (fun _ _ _ _ => False) D cls d σ' H') → tTryK K (.ref C) i j tb D σ H) : tTryK K (.ref C) i j tb D σ H := h rest
end
section
variable {P : Program} {w : World} {K : PySem.W.Frag} {mg : Str → Option Value} {base : Heap}
/-- such an __init__ keeps its promise; msg, f: its texts -/
theorem init_reads {C B : Addr} {f : Str} {msg : V} {v0 v1 : V} {H : Hp} {Q : VK} (O : OexC K C) (hno : PySem.W.findIn K (.ref C) f = some none) (h : prInit C f v0 v1 H Q) :
    tSeq (tDrop (tVeI K (tCons (tVar 0) (tCons (tC msg) tNil)))) (tOst K f (tVar 0) (tVar 1)) { nx := fun _ H' => Q .non H', rt := Q } [some v0, some v1] H := by
  obtain ⟨a, rfl, ea, q⟩ := h
  refine ⟨_, rfl, a, C, [msg], rfl, (by show 1 ≤ 1000; decide), O, ea, ?_⟩
  exact ⟨_, rfl, _, rfl, a, C, rfl, O, hno, .inl ⟨ea, fun dx nd ne => q dx nd ne⟩⟩
end
end Cm

namespace Pf
open PySem PySem.Spec PyProof.Rows L2 Cm
local macro_rules | `(tactic| wtm_at "smh") => `(tactic| with_reducible first
  | assumption
  | (refine Same.trans ?_ (by assumption); wtm_at "smx")
  | (refine Same.trans ?_ (hid_mono (by assumption)); wtm_at "smx"))
local macro_rules | `(tactic| wtm_at "smx") => `(tactic| with_reducible first
  | exact Same.refl _
  | assumption
  | exact hid_same _ _
  | (refine Same.trans ?_ (by assumption); wtm_at "smx")
  | (refine Same.trans ?_ (hid_mono (by assumption)); wtm_at "smx")
  | (apply hid_back; wtm_at "smh"))
local macro_rules | `(tactic| wtm_at "sm") => `(tactic| wtm_at "smx")
local macro_rules | `(tactic| wtm_at "at") => `(tactic| with_reducible first
  | assumption
  | exact upd_same
  | (refine at_same (by assumption) ?_; wtm_at "smx"))
local macro_rules | `(tactic| wtm_at "le") => `(tactic| with_reducible first
  | assumption
  | (refine Le.same (by assumption) ?_; wtm_at "smx"))
local macro_rules | `(tactic| wtm_at "dp") => `(tactic| with_reducible first
  | assumption
  | exact .int _
  | exact .str _
  | exact .bl _
  | (refine dp_same ?_ (by assumption); wtm_at "smx")
  | (refine dpa_same ?_ (by assumption); wtm_at "smx")
  | (refine dpI_at (by assumption) ?_; wtm_at "smx")
  | (refine dpP_at (by assumption) ?_; wtm_at "smx"))
local macro_rules | `(tactic| wtm_at "sq") => `(tactic| with_reducible first
  | assumption
  | exact sl (by assumption)
  | exact stp (by assumption)
  | (refine sl_at (by assumption) ?_; wtm_at "smx")
  | (refine st_at (by assumption) ?_; wtm_at "smx")
  | (refine Same.seq ?_ (by assumption); wtm_at "smx")
  | (refine same_seqT ?_ (by assumption); wtm_at "smx")
  | ((show SqL _ (upd _ _ _) _ _); exact sl upd_same)
  | ((show SqT _ (upd _ _ _) _ _); exact stp upd_same))
local macro_rules | `(tactic| wtm_at "cI") => `(tactic| first
  | (refine Or.inl ⟨?_, ?_⟩ <;> omega)
  | (refine Or.inr ⟨?_, ?_⟩ <;> omega)
  | (refine ⟨?_, ?_⟩ <;> omega)
  | decide)
local macro_rules | `(tactic| wtm_at "pf") => `(tactic| first | omega | decide)
local macro_rules | `(tactic| wtm_at "s2") => `(tactic| with_reducible first
  | ((show ite _ _ _); first
    | refine k_itDT (by with_unfolding_all wtm_at "pf") ?_
    | refine k_itDF (by with_unfolding_all wtm_at "pf") ?_
    | refine k_itNT (by with_unfolding_all wtm_at "pf") ?_
    | refine k_itNF (by with_unfolding_all wtm_at "pf") ?_)
  | ((show rLen _ _ _ _); first
    | refine k_len0 (by assumption) ?_
    | refine k_lenI (by wtm_at "sq") ?_
    | refine k_len (by wtm_at "sq") ?_)
  | ((show gTup _ _ _ _ _ _ _); refine k_gtup (by wtm_at "sq") (by with_unfolding_all rfl) ?_)
  | ((show rIxT _ (V.ref _) (V.int _) _ _); refine k_ixT (by wtm_at "sq") (by with_unfolding_all rfl) ?_)
  | ((show wipe _ _ = wipe _ _ ∧ _); refine k_wipe (by with_unfolding_all rfl) ?_)
  | ((show rIn _ _ _ _ _ _); first
    | refine k_inI (by wtm_at "sq") ?_
    | refine k_notInI (by wtm_at "sq") ?_)
  | ((show rIsi _ _ _ _); refine k_isiL (by wtm_at "sq") ?_)
  | ((show xMod _ _ _ _); refine k_mod (by with_unfolding_all first | decide | omega) ?_)
  | ((show xMul _ _ _ _); refine k_mul (by with_unfolding_all wtm_at "cI") ?_)
  | ((show xDiv _ _ _ _); refine k_div (by with_unfolding_all wtm_at "cI") ?_)
  | ((show xPow _ _ _ _); refine k_pow (by with_unfolding_all exact ⟨by decide, by decide, by decide⟩) ?_)
  | ((show rMinT _ _ _ _); refine k_minT (by wtm_at "sq") ?_)
  | ((show rMaxT _ _ _ _); refine k_maxT (by wtm_at "sq") ?_)
  | ((show ∃ j' : Int, [V.int _] = [.int j'] ∧ _); refine k_rj1 (by with_unfolding_all omega) (by with_unfolding_all omega) ?_)
  | ((show ∃ i' j' : Int, [V.int _, V.int _] = [.int i', .int j'] ∧ _); refine k_rj2 (by with_unfolding_all omega) ?_))
local macro_rules | `(tactic| wtm_at "s1") => `(tactic| first
  | refine go ?_
  | wtm_at "s2")
local macro_rules | `(tactic| wtm_at "s") => `(tactic| repeat wtm_at "s1")
def topS (i : Nat) : Stmt := PySem.Challenge.pw_tiehues_k40_crossings_at_places.main.body.getD i (.Pass ⟨0, 0, 0, 0⟩)
abbrev s_is_tree : Stmt := topS 8
theorem sc_is_tree : FnScope ["parents", "k"] ["parents"] (defScope s_is_tree) := ⟨rfl, rfl, rfl, by decide +kernel, rfl, by decide +kernel, by decide +kernel⟩
abbrev s_look_net : Stmt := topS 9
theorem sc_look_net : FnScope ["net", "kind", "size", "right"] ["net"] (defScope s_look_net) := ⟨rfl, rfl, rfl, by decide +kernel, rfl, by decide +kernel, by decide +kernel⟩
abbrev s_must_be_kind : Stmt := topS 10
theorem sc_must_be_kind : FnScope ["net", "kind"] ["net", "kind"] (defScope s_must_be_kind) := ⟨rfl, rfl, rfl, by decide +kernel, rfl, by decide +kernel, by decide +kernel⟩
abbrev s_places_of : Stmt := topS 11
theorem sc_places_of : FnScope ["net"] ["net"] (defScope s_places_of) := ⟨rfl, rfl, rfl, by decide +kernel, rfl, by decide +kernel, by decide +kernel⟩
abbrev s_is_way : Stmt := topS 12
theorem sc_is_way : FnScope ["net", "way", "a", "b"] ["net", "way"] (defScope s_is_way) := ⟨rfl, rfl, rfl, by decide +kernel, rfl, by decide +kernel, by decide +kernel⟩
abbrev s_ties_on : Stmt := topS 13
theorem sc_ties_on : FnScope ["net", "way", "a", "b", "found"] ["net", "way"] (defScope s_ties_on) := ⟨rfl, rfl, rfl, by decide +kernel, rfl, by decide +kernel, by decide +kernel⟩
abbrev s_must_be_ways : Stmt := topS 14
theorem sc_must_be_ways : FnScope ["net", "ways", "k"] ["net", "ways"] (defScope s_must_be_ways) := ⟨rfl, rfl, rfl, by decide +kernel, rfl, by decide +kernel, by decide +kernel⟩
abbrev s_ties_at : Stmt := topS 16
theorem sc_ties_at : FnScope ["net", "place", "parents", "k"] ["net", "place"] (defScope s_ties_at) := ⟨rfl, rfl, rfl, by decide +kernel, rfl, by decide +kernel, by decide +kernel⟩
abbrev s_crossing_of : Stmt := topS 17
theorem sc_crossing_of : FnScope ["net", "ways", "place", "here", "pairs", "numbers", "k", "some", "tie"] ["net", "ways", "place"] (defScope s_crossing_of) := ⟨rfl, rfl, rfl, by decide +kernel, rfl, by decide +kernel, by decide +kernel⟩
abbrev s_crossing_at : Stmt := topS 18
theorem sc_crossing_at : FnScope ["net", "ways", "place"] ["net", "ways", "place"] (defScope s_crossing_at) := ⟨rfl, rfl, rfl, by decide +kernel, rfl, by decide +kernel, by decide +kernel⟩
abbrev s_law_purse : Stmt := topS 20
theorem sc_law_purse : FnScope ["_law_script", "_law_cells"] ["_law_script"] (defScope s_law_purse) := ⟨rfl, rfl, rfl, by decide +kernel, rfl, by decide +kernel, by decide +kernel⟩
abbrev s_law_draw : Stmt := topS 21
theorem sc_law_draw : FnScope ["_law_purse_here", "_law_out_of", "_law_cells", "_law_turn", "_law_at", "_law_cell", "_law_number"] ["_law_purse_here", "_law_out_of"] (defScope s_law_draw) := ⟨rfl, rfl, rfl, by decide +kernel, rfl, by decide +kernel, by decide +kernel⟩
abbrev s_law_tree : Stmt := topS 22
theorem sc_law_tree : FnScope ["_law_purse_here", "_law_many", "_law_way", "_law_parents", "_law_k", "_law_one"] ["_law_purse_here"] (defScope s_law_tree) := ⟨rfl, rfl, rfl, by decide +kernel, rfl, by decide +kernel, by decide +kernel⟩
abbrev s_law_ways : Stmt := topS 23
theorem sc_law_ways : FnScope ["_law_purse_here", "_law_places", "_law_most", "_law_found", "_law_k", "_law_one"] ["_law_purse_here", "_law_places", "_law_most"] (defScope s_law_ways) := ⟨rfl, rfl, rfl, by decide +kernel, rfl, by decide +kernel, by decide +kernel⟩
abbrev s_law_up : Stmt := topS 24
theorem sc_law_up : FnScope ["_law_parents", "_law_place", "_law_found"] ["_law_parents", "_law_place"] (defScope s_law_up) := ⟨rfl, rfl, rfl, by decide +kernel, rfl, by decide +kernel, by decide +kernel⟩
abbrev s_law_ties : Stmt := topS 25
theorem sc_law_ties : FnScope ["_law_parents", "_law_way", "_law_one", "_law_other", "_law_tie"] ["_law_parents", "_law_way"] (defScope s_law_ties) := ⟨rfl, rfl, rfl, by decide +kernel, rfl, by decide +kernel, by decide +kernel⟩
abbrev s_law_due : Stmt := topS 26
theorem sc_law_due : FnScope ["_law_parents", "_law_lain", "_law_place", "_law_here", "_law_pairs", "_law_numbers", "_law_k", "_law_some", "_law_tie"] ["_law_parents", "_law_lain", "_law_place"] (defScope s_law_due) := ⟨rfl, rfl, rfl, by decide +kernel, rfl, by decide +kernel, by decide +kernel⟩
abbrev s_law_whole : Stmt := topS 27
theorem sc_law_whole : FnScope ["_law_found", "_law_one"] ["_law_found"] (defScope s_law_whole) := ⟨rfl, rfl, rfl, by decide +kernel, rfl, by decide +kernel, by decide +kernel⟩
abbrev s_law_same : Stmt := topS 28
theorem sc_law_same : FnScope ["_law_found", "_law_due_here"] ["_law_found", "_law_due_here"] (defScope s_law_same) := ⟨rfl, rfl, rfl, by decide +kernel, rfl, by decide +kernel, by decide +kernel⟩
abbrev s_law : Stmt := topS 29
theorem sc_law : FnScope ["_law_script", "_law_purse_here", "_law_turn", "_law_parents", "_law_ways_here", "_law_net", "_law_handed", "_law_lain", "_law_places", "_law_place", "_law_found", "_law_due_here", "_law_way", "_law_k"] ["_law_script"] (defScope s_law) := ⟨rfl, rfl, rfl, by decide +kernel, rfl, by decide +kernel, by decide +kernel⟩
structure Ad where
  a_is_tree : Addr
  d_is_tree : FuncData
  a_look_net : Addr
  d_look_net : FuncData
  a_must_be_kind : Addr
  d_must_be_kind : FuncData
  a_places_of : Addr
  d_places_of : FuncData
  a_is_way : Addr
  d_is_way : FuncData
  a_ties_on : Addr
  d_ties_on : FuncData
  a_must_be_ways : Addr
  d_must_be_ways : FuncData
  a_ties_at : Addr
  d_ties_at : FuncData
  a_crossing_of : Addr
  d_crossing_of : FuncData
  a_crossing_at : Addr
  d_crossing_at : FuncData
  a_law_purse : Addr
  d_law_purse : FuncData
  a_law_draw : Addr
  d_law_draw : FuncData
  a_law_tree : Addr
  d_law_tree : FuncData
  a_law_ways : Addr
  d_law_ways : FuncData
  a_law_up : Addr
  d_law_up : FuncData
  a_law_ties : Addr
  d_law_ties : FuncData
  a_law_due : Addr
  d_law_due : FuncData
  a_law_whole : Addr
  d_law_whole : FuncData
  a_law_same : Addr
  d_law_same : FuncData
  a_law : Addr
  d_law : FuncData
structure Txt (K : PySem.W.Frag) (mg : Str → Option Value) (A : Ad) : Prop where
  g_is_tree : mg "is_tree" = some (.ref A.a_is_tree)
  F_is_tree : Fun K "is_tree" "is_tree" s_is_tree A.a_is_tree A.d_is_tree
  b_is_tree : Binds K A.d_is_tree ["parents"] []
  g_look_net : mg "look_net" = some (.ref A.a_look_net)
  F_look_net : Fun K "look_net" "look_net" s_look_net A.a_look_net A.d_look_net
  b_look_net : Binds K A.d_look_net ["net"] []
  g_must_be_kind : mg "must_be_kind" = some (.ref A.a_must_be_kind)
  F_must_be_kind : Fun K "must_be_kind" "must_be_kind" s_must_be_kind A.a_must_be_kind A.d_must_be_kind
  b_must_be_kind : Binds K A.d_must_be_kind ["net", "kind"] []
  g_places_of : mg "places_of" = some (.ref A.a_places_of)
  F_places_of : Fun K "places_of" "places_of" s_places_of A.a_places_of A.d_places_of
  b_places_of : Binds K A.d_places_of ["net"] []
  g_is_way : mg "is_way" = some (.ref A.a_is_way)
  F_is_way : Fun K "is_way" "is_way" s_is_way A.a_is_way A.d_is_way
  b_is_way : Binds K A.d_is_way ["net", "way"] []
  g_ties_on : mg "ties_on" = some (.ref A.a_ties_on)
  F_ties_on : Fun K "ties_on" "ties_on" s_ties_on A.a_ties_on A.d_ties_on
  b_ties_on : Binds K A.d_ties_on ["net", "way"] []
  g_must_be_ways : mg "must_be_ways" = some (.ref A.a_must_be_ways)
  F_must_be_ways : Fun K "must_be_ways" "must_be_ways" s_must_be_ways A.a_must_be_ways A.d_must_be_ways
  b_must_be_ways : Binds K A.d_must_be_ways ["net", "ways"] []
  g_ties_at : mg "ties_at" = some (.ref A.a_ties_at)
  F_ties_at : Fun K "ties_at" "ties_at" s_ties_at A.a_ties_at A.d_ties_at
  b_ties_at : Binds K A.d_ties_at ["net", "place"] []
  g_crossing_of : mg "crossing_of" = some (.ref A.a_crossing_of)
  F_crossing_of : Fun K "crossing_of" "crossing_of" s_crossing_of A.a_crossing_of A.d_crossing_of
  b_crossing_of : Binds K A.d_crossing_of ["net", "ways", "place"] []
  g_crossing_at : mg "crossing_at" = some (.ref A.a_crossing_at)
  F_crossing_at : Fun K "crossing_at" "crossing_at" s_crossing_at A.a_crossing_at A.d_crossing_at
  b_crossing_at : Binds K A.d_crossing_at ["net", "ways", "place"] []
  g_law_purse : mg "_law_purse" = some (.ref A.a_law_purse)
  F_law_purse : Fun K "_law_purse" "_law_purse" s_law_purse A.a_law_purse A.d_law_purse
  b_law_purse : Binds K A.d_law_purse ["_law_script"] []
  g_law_draw : mg "_law_draw" = some (.ref A.a_law_draw)
  F_law_draw : Fun K "_law_draw" "_law_draw" s_law_draw A.a_law_draw A.d_law_draw
  b_law_draw : Binds K A.d_law_draw ["_law_purse_here", "_law_out_of"] []
  g_law_tree : mg "_law_tree" = some (.ref A.a_law_tree)
  F_law_tree : Fun K "_law_tree" "_law_tree" s_law_tree A.a_law_tree A.d_law_tree
  b_law_tree : Binds K A.d_law_tree ["_law_purse_here"] []
  g_law_ways : mg "_law_ways" = some (.ref A.a_law_ways)
  F_law_ways : Fun K "_law_ways" "_law_ways" s_law_ways A.a_law_ways A.d_law_ways
  b_law_ways : Binds K A.d_law_ways ["_law_purse_here", "_law_places", "_law_most"] []
  g_law_up : mg "_law_up" = some (.ref A.a_law_up)
  F_law_up : Fun K "_law_up" "_law_up" s_law_up A.a_law_up A.d_law_up
  b_law_up : Binds K A.d_law_up ["_law_parents", "_law_place"] []
  g_law_ties : mg "_law_ties" = some (.ref A.a_law_ties)
  F_law_ties : Fun K "_law_ties" "_law_ties" s_law_ties A.a_law_ties A.d_law_ties
  b_law_ties : Binds K A.d_law_ties ["_law_parents", "_law_way"] []
  g_law_due : mg "_law_due" = some (.ref A.a_law_due)
  F_law_due : Fun K "_law_due" "_law_due" s_law_due A.a_law_due A.d_law_due
  b_law_due : Binds K A.d_law_due ["_law_parents", "_law_lain", "_law_place"] []
  g_law_whole : mg "_law_whole" = some (.ref A.a_law_whole)
  F_law_whole : Fun K "_law_whole" "_law_whole" s_law_whole A.a_law_whole A.d_law_whole
  b_law_whole : Binds K A.d_law_whole ["_law_found"] []
  g_law_same : mg "_law_same" = some (.ref A.a_law_same)
  F_law_same : Fun K "_law_same" "_law_same" s_law_same A.a_law_same A.d_law_same
  b_law_same : Binds K A.d_law_same ["_law_found", "_law_due_here"] []
  g_law : mg "law" = some (.ref A.a_law)
  F_law : Fun K "law" "law" s_law A.a_law A.d_law
  b_law : Binds K A.d_law ["_law_script"] []
  c_MOST_PLACES : mg "MOST_PLACES" = some (.int 60 (g_tok mg "MOST_PLACES"))
  z_all : mg "all" = none
  z_bool : mg "bool" = none
  z_int : mg "int" = none
  z_isinstance : mg "isinstance" = none
  z_len : mg "len" = none
  z_list : mg "list" = none
  z_max : mg "max" = none
  z_min : mg "min" = none
  z_range : mg "range" = none
  z_sorted : mg "sorted" = none
  z_tuple : mg "tuple" = none
/-! ### nets -/
inductive Net where
  | line (n : Int)
  | ring (n : Int)
  | tree (ps : List Int)
def Net.kind : Net → Str
  | .line _ => Str.ofString "line"
  | .ring _ => Str.ofString "ring"
  | .tree _ => Str.ofString "tree"
def Net.size : Net → PyData
  | .line n => .int n
  | .ring n => .int n
  | .tree ps => dInts ps
abbrev Net.d (N : Net) : PyData := .tuple [.str N.kind, N.size]
def TreeOk (ps : List Int) : Prop := 1 ≤ ps.length ∧ ps.length < 60 ∧ ∀ k : Nat, k < ps.length → 0 ≤ ps.getD k 0 ∧ ps.getD k 0 ≤ k
def Net.ok : Net → Prop
  | .line n => 2 ≤ n ∧ n ≤ 60
  | .ring n => 3 ≤ n ∧ n ≤ 60
  | .tree ps => TreeOk ps
def Net.places : Net → Int
  | .line n => n
  | .ring n => n
  | .tree ps => ps.length + 1
theorem net_str {s t : Str} (h : decide (V.str s = V.str t) = true) : s = t := V.str.inj (of_decide_eq_true h)
/-- a net's tuple -/
theorem dp_net {K : PySem.W.Frag} {H : Hp} {v : V} {N : Net} (h : Dp K H v N.d) : ∃ a y, v = .ref a ∧ SqT K H a [.str N.kind, y] ∧ Dp K H y N.size := by
  obtain ⟨a, x, y, rfl, hs, hx, hy⟩ := dp_tup2 h
  obtain rfl := dp_str hx
  exact ⟨a, y, rfl, hs, hy⟩
theorem k_eqS {s t : Str} {H : Hp} {Q : VK} (h : Q (.bl (decide (s = t))) H) : rEq (.str s) (.str t) H Q := ⟨rfl, by
  have e : decide (V.str s = V.str t) = decide (s = t) := by
    by_cases c : s = t
    · rw [decide_eq_true c, decide_eq_true (by rw [c])]
    · rw [decide_eq_false c, decide_eq_false (fun z => c (V.str.inj z))]
  rw [e]; exact h⟩
theorem k_neS {s t : Str} {H : Hp} {Q : VK} (h : Q (.bl (!decide (s = t))) H) : rNe (.str s) (.str t) H Q := ⟨rfl, by
  have e : decide (V.str s = V.str t) = decide (s = t) := by
    by_cases c : s = t
    · rw [decide_eq_true c, decide_eq_true (by rw [c])]
    · rw [decide_eq_false c, decide_eq_false (fun z => c (V.str.inj z))]
  rw [e]; exact h⟩
theorem s_lt : decide (Str.ofString "line" = Str.ofString "tree") = false := by decide +kernel
theorem s_rt : decide (Str.ofString "ring" = Str.ofString "tree") = false := by decide +kernel
theorem s_lr : decide (Str.ofString "line" = Str.ofString "ring") = false := by decide +kernel
theorem s_rl : decide (Str.ofString "ring" = Str.ofString "line") = false := by decide +kernel
theorem s_tl : decide (Str.ofString "tree" = Str.ofString "line") = false := by decide +kernel
theorem s_tr : decide (Str.ofString "tree" = Str.ofString "ring") = false := by decide +kernel
theorem s_same (s : Str) : decide (s = s) = true := decide_eq_true rfl
/-- how far t lies up from a on a ring of n -/
def up (n a t : Int) : Int := if a ≤ t then t - a else t - a + n
/-- x lies in the part of the tree that hangs by k -/
def below (ps : List Int) (k : Nat) : Nat → Bool
  | 0 => decide (k = 0)
  | x + 1 => decide (k = x + 1) || (decide (k < x + 1) && if h : (ps.getD x 0).toNat < x + 1 then below ps k (ps.getD x 0).toNat else false)
termination_by x => x
decreasing_by exact h
def OnTie : Net → Int → Int → Int → Prop
  | .line _, a, b, t => min a b ≤ t ∧ t < max a b
  | .ring n, a, b, t => 0 ≤ t ∧ t < n ∧ up n a t < up n a b
  | .tree ps, a, b, t => 0 ≤ t ∧ t < ps.length ∧ below ps (t.toNat + 1) a.toNat ≠ below ps (t.toNat + 1) b.toNat
def Net.far : Net → Int → Int → List Int → Prop
  | .line _, a, b, ns => (ns.length : Int) = max a b - min a b
  | .ring n, a, b, ns => (ns.length : Int) = up n a b
  | .tree _, _, _, ns => ns.length < 120
def isWay (N : Net) (a b : Int) : Prop := a ≠ b ∧ 0 ≤ a ∧ 0 ≤ b ∧ a < N.places ∧ b < N.places
instance (N : Net) (a b : Int) : Decidable (isWay N a b) := by unfold isWay; infer_instance
structure TiesOf (N : Net) (a b : Int) (ns : List Int) : Prop where
  srt : ns.Pairwise (· < ·)
  mem : ∀ t, t ∈ ns ↔ OnTie N a b t
  far : N.far a b ns

variable {P : Program} {w : World} {K : PySem.W.Frag} {mg : Str → Option Value} {base : Heap} {A : Ad}
def pr_is_tree (K : PySem.W.Frag) (v0 : V) (H : Hp) (Q : VK) (_ : XK) : Prop := ∃ ps, Dp K H v0 (dInts ps) ∧ ps.length ≤ 10000 ∧ ∀ b, (b = true ↔ TreeOk ps) → Q (.bl b) H
def t_is_tree (K : PySem.W.Frag) : TS :=
  (tSeq (tIfS (tOr (tTest (tOp xLt (tCB (rLen K) (tCons (tVar 0) tNil)) (tC (.int 1)))) (tTest (tOp xGe (tCB (rLen K) (tCons (tVar 0) tNil)) (tC (.int 60))))) (tRet (tC (.bl false))) tNext)
    (tSeq (tFor (iRng1 (tCons (tCB (rLen K) (tCons (tVar 0) tNil)) tNil)) (gName 1)
      (tIfS (tOr (tTest (tOp xLt (tOp (rIxL K) (tVar 0) (tVar 1)) (tC (.int 0)))) (tTest (tOp xGt (tOp (rIxL K) (tVar 0) (tVar 1)) (tVar 1)))) (tRet (tC (.bl false))) tNext))
    (tRet (tC (.bl true)))))
theorem pure_is_tree {v0 : V} {H : Hp} {Q : VK} {E : XK} (h : pr_is_tree K v0 H Q E) : t_is_tree K ⟨fun _ H' => Q .non H', Q, fun _ _ => False, fun _ _ => False⟩ [some v0, none] H := by
  obtain ⟨ps, hp, hz, q⟩ := h
  obtain ⟨a, rfl, ha⟩ := dp_ints hp
  unfold t_is_tree
  wtm_at "s"
  refine k_it (fun c1 => ?_) (fun c1 => ?_)
  · wtm_at "s"
    exact q _ (ff_iff fun z => absurd z.1 (by omega))
  wtm_at "s"
  refine k_it (fun c2 => ?_) (fun c2 => ?_)
  · wtm_at "s"
    exact q _ (ff_iff fun z => absurd z.2.1 (by omega))
  wtm_at "s"
  refine forR (fun i σ' H' => H' = H ∧ (∃ k, σ' = [some (.ref a), k]) ∧ ∀ k : Nat, k < i → 0 ≤ ps.getD k 0 ∧ ps.getD k 0 ≤ k) ⟨rfl, ⟨none, rfl⟩, fun k hk => absurd hk (by omega)⟩ ?_ ?_
  · rintro i σ' H' hi ⟨rfl, ⟨k, rfl⟩, hk⟩
    wtm_at "s"
    refine k_ixI ha (by omega) (by omega) ?_
    wtm_at "s"
    rw [show (0 + (i : Int)).toNat = i by omega]
    refine k_it (fun c3 => ?_) (fun c3 => ?_)
    · wtm_at "s"
      exact q _ (ff_iff fun z => absurd (z.2.2 i (by omega)).1 (by omega))
    wtm_at "s"
    refine k_ixI ha (by omega) (by omega) ?_
    wtm_at "s"
    rw [show (0 + (i : Int)).toNat = i by omega]
    refine k_it (fun c4 => ?_) (fun c4 => ?_)
    · wtm_at "s"
      exact q _ (ff_iff fun z => absurd (z.2.2 i (by omega)).2 (by omega))
    wtm_at "s"
    refine ⟨rfl, ⟨_, rfl⟩, fun k hk' => ?_⟩
    by_cases e : k = i
    · subst e; omega
    · exact hk k (by omega)
  · rintro σ' H' ⟨rfl, ⟨k, rfl⟩, hk⟩
    wtm_at "s"
    exact q _ (tt_iff ⟨by omega, by omega, fun k h => hk k (by omega)⟩)
abbrev sp_is_tree (K : PySem.W.Frag) : Sp := fun vs H Q E => ∃ v0, vs = [v0] ∧ pr_is_tree K v0 H Q E
theorem ok_is_tree (T : Txt K mg A) : FnOk P w K mg base CX0 1 A.a_is_tree A.d_is_tree ["parents"] (sp_is_tree K) := by
  refine T.F_is_tree.ok sc_is_tree (fun vs H Q E h => by obtain ⟨v0, rfl, _⟩ := h; rfl) (fun cdv A0 outer s H vs Q E hr h => ?_)
  obtain ⟨v0, rfl, h⟩ := h
  exact ⟨t_is_tree K, (pss_cons (ps_if (PW.pt (pw_or (pt_cmpR op_lt (pe_callB q_len (by rfl) T.z_len (by decide +kernel) (pa_cons (pv 0) pa_nil)) pe_int (nomark _)) (pw_or1 (pt_cmpR op_ge (pe_callB q_len (by rfl) T.z_len (by decide +kernel) (pa_cons (pv 0) pa_nil)) (pe_glob (v := .int 60) (by rfl) T.c_MOST_PLACES ⟨_, rfl⟩) (nomark _))))) (pss_one (ps_ret pe_bl)) pss_nil)
      (pss_cons (ps_for PassesOwn.never rfl (pi_range1 (by rfl) T.z_range (pa_cons (pe_callB q_len (by rfl) T.z_len (by decide +kernel) (pa_cons (pv 0) pa_nil)) pa_nil)) (pg_name (i := 1) sc_is_tree.nd rfl (Or.inl rfl))
      (pss_one (ps_if (PW.pt (pw_or (pt_cmpR op_lt (pe_ix ix_list (pv 0) (pv 1) (fun _ _ => rfl)) pe_int (nomark _)) (pw_or1 (pt_cmpR op_gt (pe_ix ix_list (pv 0) (pv 1) (fun _ _ => rfl)) (pv 1) (nomark _))))) (pss_one (ps_ret pe_bl)) pss_nil)))
      (pss_one (ps_ret pe_bl)))), pure_is_tree h⟩
def pr_look_net (K : PySem.W.Frag) (v0 : V) (H : Hp) (Q : VK) (_ : XK) : Prop := ∃ N : Net, Dp K H v0 N.d ∧ N.ok ∧ Q .non H
def t_look_net (K : PySem.W.Frag) : TS :=
  (tSeq (tAsg (tVar 0) (gTup K 2 (gCons (gName 1) (gCons (gName 2) gNil))))
    (tSeq (tIfS (tTest (tOp rEq (tVar 1) (tC (.str (Str.ofString "tree"))))) (tAsg (tAndV (tCB (rIsi K) (tCons (tVar 2) (tCons (tC (.ty "list")) tNil))) (tCall (sp_is_tree K) [] E0 (tCons (tVar 2) tNil))) (gName 3)) (tIfS (tOr (tTest (tOp rEq (tVar 1) (tC (.str (Str.ofString "line"))))) (tTest (tOp rEq (tVar 1) (tC (.str (Str.ofString "ring")))))) (tAsg (tAndV (tNotV (tCB (rIsi K) (tCons (tVar 2) (tCons (tC (.ty "list")) tNil)))) (tAndV (tOp xGe (tVar 2) (tOp xAdd (tC (.int 2)) (tCB rIntOf (tCons (tOp rEq (tVar 1) (tC (.str (Str.ofString "ring")))) tNil)))) (tOp xLe (tVar 2) (tC (.int 60))))) (gName 3)) (tAsg (tC (.bl false)) (gName 3))))
    (tIfS (tNot (tB (tVar 3))) tNever tNext)))
theorem pure_look_net {v0 : V} {H : Hp} {Q : VK} {E : XK} (h : pr_look_net K v0 H Q E) : t_look_net K ⟨fun _ H' => Q .non H', Q, fun _ _ => False, fun _ _ => False⟩ [some v0, none, none, none] H := by
  obtain ⟨N, hd, ok, q⟩ := h
  obtain ⟨a, y, rfl, hs, hy⟩ := dp_net hd
  unfold t_look_net
  cases N with
  | line n =>
    obtain rfl := dp_int hy
    obtain ⟨o1, o2⟩ := ok
    wtm_at "s"
    refine k_eqS ?_
    rw [show Net.kind (.line n) = Str.ofString "line" from rfl, s_lt]
    wtm_at "s"
    refine k_eqS ?_
    rw [s_same]
    wtm_at "s"
    refine k_eqS ?_
    rw [s_lr]
    wtm_at "s"
    have e1 : decide (2 + (if false = true then 1 else 0) ≤ n) = true := by simp; omega
    rw [e1]
    wtm_at "s"
    exact q
  | ring n =>
    obtain rfl := dp_int hy
    obtain ⟨o1, o2⟩ := ok
    wtm_at "s"
    refine k_eqS ?_
    rw [show Net.kind (.ring n) = Str.ofString "ring" from rfl, s_rt]
    wtm_at "s"
    refine k_eqS ?_
    rw [s_rl]
    wtm_at "s"
    refine k_eqS ?_
    rw [s_same]
    wtm_at "s"
    refine k_eqS ?_
    rw [s_same]
    wtm_at "s"
    exact q
  | tree ps =>
    obtain ⟨b, rfl, hb⟩ := dp_ints hy
    wtm_at "s"
    refine k_eqS ?_
    rw [show Net.kind (.tree ps) = Str.ofString "tree" from rfl, s_same]
    wtm_at "s"
    refine ⟨_, rfl, ps, hy, by have := ok.2.1; omega, fun r hr => ?_⟩
    obtain rfl := hr.mpr ok
    wtm_at "s"
    exact q
abbrev sp_look_net (K : PySem.W.Frag) : Sp := fun vs H Q E => ∃ v0, vs = [v0] ∧ pr_look_net K v0 H Q E
theorem ok_look_net (T : Txt K mg A) : FnOk P w K mg base CX0 2 A.a_look_net A.d_look_net ["net"] (sp_look_net K) := by
  refine T.F_look_net.ok sc_look_net (fun vs H Q E h => by obtain ⟨v0, rfl, _⟩ := h; rfl) (fun cdv A0 outer s H vs Q E hr h => ?_)
  obtain ⟨v0, rfl, h⟩ := h
  exact ⟨t_look_net K, (pss_cons (ps_asg (pv 0) (pg_tup (by rfl) (pgs_cons (pg_name (i := 1) sc_look_net.nd rfl (Or.inl rfl)) (pgs_cons (pg_name (i := 2) sc_look_net.nd rfl (Or.inl rfl)) pgs_nil))))
      (pss_cons (ps_if (pt_cmpR op_eq (pv 1) pe_str (nomark _)) (pss_one (ps_set (i := 3) sc_look_net.nd rfl (Or.inl rfl) (pe_and (pe_callB q_isi (by rfl) T.z_isinstance (by decide +kernel) (pa_cons (pv 2) (pa_cons (pe_bltn (v := .ty "list") (by rfl) T.z_list (by decide +kernel) rfl) pa_nil))) (pe_one (pe_call (ok_is_tree T) (hr.mono (by decide)) (by rfl) T.g_is_tree T.F_is_tree.kp T.b_is_tree .nil pass0 (pa_cons (pv 2) pa_nil)))))) (pss_one (ps_if (PW.pt (pw_or (pt_cmpR op_eq (pv 1) pe_str (nomark _)) (pw_or1 (pt_cmpR op_eq (pv 1) pe_str (nomark _))))) (pss_one (ps_set (i := 3) sc_look_net.nd rfl (Or.inl rfl) (pe_and (pe_not (pe_callB q_isi (by rfl) T.z_isinstance (by decide +kernel) (pa_cons (pv 2) (pa_cons (pe_bltn (v := .ty "list") (by rfl) T.z_list (by decide +kernel) rfl) pa_nil)))) (pe_and (pe_cmpR op_ge (pv 2) (pe_op op_add pe_int (pe_callTy q_intB (by rfl) T.z_int (by decide +kernel) (pa_cons (pe_cmpR op_eq (pv 1) pe_str (nomark _)) pa_nil))) (nomark _)) (pe_one (pe_cmpR op_le (pv 2) (pe_glob (v := .int 60) (by rfl) T.c_MOST_PLACES ⟨_, rfl⟩) (nomark _))))))) (pss_one (ps_set (i := 3) sc_look_net.nd rfl (Or.inl rfl) pe_bl)))))
      (pss_one (ps_if (pt_not (pt_val (pv 3))) (pss_one ps_never) pss_nil)))), pure_look_net h⟩
def pr_must_be_kind (K : PySem.W.Frag) (v0 v1 : V) (H : Hp) (Q : VK) (_ : XK) : Prop := ∃ N : Net, Dp K H v0 N.d ∧ N.ok ∧ v1 = .str N.kind ∧ Q .non H
def t_must_be_kind (K : PySem.W.Frag) : TS :=
  (tSeq (tDrop (tCall (sp_look_net K) [] E0 (tCons (tVar 0) tNil)))
    (tIfS (tTest (tOp rNe (tOp (rIxT K) (tVar 0) (tC (.int 0))) (tVar 1))) tNever tNext))
theorem pure_must_be_kind {v0 v1 : V} {H : Hp} {Q : VK} {E : XK} (h : pr_must_be_kind K v0 v1 H Q E) : t_must_be_kind K ⟨fun _ H' => Q .non H', Q, fun _ _ => False, fun _ _ => False⟩ [some v0, some v1] H := by
  obtain ⟨N, hd, ok, rfl, q⟩ := h
  obtain ⟨a, y, rfl, hs, hy⟩ := dp_net hd
  unfold t_must_be_kind
  wtm_at "s"
  refine ⟨_, rfl, N, hd, ok, ?_⟩
  wtm_at "s"
  refine k_neS ?_
  rw [s_same]
  wtm_at "s"
  exact q
abbrev sp_must_be_kind (K : PySem.W.Frag) : Sp := fun vs H Q E => ∃ v0 v1, vs = [v0, v1] ∧ pr_must_be_kind K v0 v1 H Q E
theorem ok_must_be_kind (T : Txt K mg A) : FnOk P w K mg base CX0 3 A.a_must_be_kind A.d_must_be_kind ["net", "kind"] (sp_must_be_kind K) := by
  refine T.F_must_be_kind.ok sc_must_be_kind (fun vs H Q E h => by obtain ⟨v0, v1, rfl, _⟩ := h; rfl) (fun cdv A0 outer s H vs Q E hr h => ?_)
  obtain ⟨v0, v1, rfl, h⟩ := h
  exact ⟨t_must_be_kind K, (pss_cons (ps_expr (pe_call (ok_look_net T) (hr.mono (by decide)) (by rfl) T.g_look_net T.F_look_net.kp T.b_look_net .nil pass0 (pa_cons (pv 0) pa_nil)))
      (pss_one (ps_if (pt_cmpR op_ne (pe_ix ix_tup (pv 0) pe_int (fun _ _ => rfl)) (pv 1) (nomark _)) (pss_one ps_never) pss_nil))), pure_must_be_kind h⟩


def pr_places_of (K : PySem.W.Frag) (v0 : V) (H : Hp) (Q : VK) (_ : XK) : Prop := ∃ N : Net, Dp K H v0 N.d ∧ Q (.int N.places) H
def t_places_of (K : PySem.W.Frag) : TS :=
  (tSeq (tIfS (tTest (tOp rEq (tOp (rIxT K) (tVar 0) (tC (.int 0))) (tC (.str (Str.ofString "tree"))))) (tRet (tOp xAdd (tCB (rLen K) (tCons (tOp (rIxT K) (tVar 0) (tC (.int 1))) tNil)) (tC (.int 1)))) tNext)
    (tRet (tOp (rIxT K) (tVar 0) (tC (.int 1)))))
theorem pure_places_of {v0 : V} {H : Hp} {Q : VK} {E : XK} (h : pr_places_of K v0 H Q E) : t_places_of K ⟨fun _ H' => Q .non H', Q, fun _ _ => False, fun _ _ => False⟩ [some v0] H := by
  obtain ⟨N, hd, q⟩ := h
  obtain ⟨a, y, rfl, hs, hy⟩ := dp_net hd
  unfold t_places_of
  wtm_at "s"
  refine k_eqS ?_
  cases N with
  | line n =>
    obtain rfl := dp_int hy
    rw [show Net.kind (.line n) = Str.ofString "line" from rfl, s_lt]
    wtm_at "s"
    exact q
  | ring n =>
    obtain rfl := dp_int hy
    rw [show Net.kind (.ring n) = Str.ofString "ring" from rfl, s_rt]
    wtm_at "s"
    exact q
  | tree ps =>
    obtain ⟨b, rfl, hb⟩ := dp_ints hy
    rw [show Net.kind (.tree ps) = Str.ofString "tree" from rfl, s_same]
    wtm_at "s"
    exact q
abbrev sp_places_of (K : PySem.W.Frag) : Sp := fun vs H Q E => ∃ v0, vs = [v0] ∧ pr_places_of K v0 H Q E
theorem ok_places_of (T : Txt K mg A) : FnOk P w K mg base CX0 1 A.a_places_of A.d_places_of ["net"] (sp_places_of K) := by
  refine T.F_places_of.ok sc_places_of (fun vs H Q E h => by obtain ⟨v0, rfl, _⟩ := h; rfl) (fun cdv A0 outer s H vs Q E hr h => ?_)
  obtain ⟨v0, rfl, h⟩ := h
  exact ⟨t_places_of K, (pss_cons (ps_if (pt_cmpR op_eq (pe_ix ix_tup (pv 0) pe_int (fun _ _ => rfl)) pe_str (nomark _)) (pss_one (ps_ret (pe_op op_add (pe_callB q_len (by rfl) T.z_len (by decide +kernel) (pa_cons (pe_ix ix_tup (pv 0) pe_int (fun _ _ => rfl)) pa_nil)) pe_int))) pss_nil)
      (pss_one (ps_ret (pe_ix ix_tup (pv 0) pe_int (fun _ _ => rfl))))), pure_places_of h⟩
def pr_is_way (K : PySem.W.Frag) (v0 v1 : V) (H : Hp) (Q : VK) (_ : XK) : Prop := ∃ (N : Net) (a b : Int), Dp K H v0 N.d ∧ Dp K H v1 (dPair (a, b)) ∧ Q (.bl (decide (isWay N a b))) H
def t_is_way (K : PySem.W.Frag) : TS :=
  (tSeq (tAsg (tVar 1) (gTup K 2 (gCons (gName 2) (gCons (gName 3) gNil))))
    (tRet (tAndV (tOp rNe (tVar 2) (tVar 3)) (tAndV (tOp xGe (tCB rMin2 (tCons (tVar 2) (tCons (tVar 3) tNil))) (tC (.int 0))) (tOp xLt (tCB rMax2 (tCons (tVar 2) (tCons (tVar 3) tNil))) (tCall (sp_places_of K) [] E0 (tCons (tVar 0) tNil)))))))
theorem pure_is_way {v0 v1 : V} {H : Hp} {Q : VK} {E : XK} (h : pr_is_way K v0 v1 H Q E) : t_is_way K ⟨fun _ H' => Q .non H', Q, fun _ _ => False, fun _ _ => False⟩ [some v0, some v1, none, none] H := by
  obtain ⟨N, a, b, hd, hw, q⟩ := h
  obtain ⟨p, rfl, hp⟩ := dp_pair hw
  have kk : ∀ r : Bool, (r = true ↔ isWay N a b) → Q (.bl r) H := fun r hr => by
    have : r = decide (isWay N a b) := by
      by_cases c : isWay N a b
      · rw [decide_eq_true c]; exact hr.mpr c
      · rw [decide_eq_false c]
        cases r with
        | false => rfl
        | true => exact absurd (hr.mp rfl) c
    rw [this]; exact q
  unfold t_is_way
  wtm_at "s"
  refine k_itn (fun c1 => ?_) (fun c1 => ?_)
  · wtm_at "s"
    refine k_it (fun c2 => ?_) (fun c2 => ?_)
    · wtm_at "s"
      refine ⟨_, rfl, N, hd, ?_⟩
      wtm_at "s"
      refine kk _ ?_
      simp only [decide_eq_true_eq, isWay]
      constructor
      · intro z
        split at z <;> split at c2 <;> omega
      · intro z
        split <;> omega
    · wtm_at "s"
      refine kk _ (ff_iff fun z => c2 ?_)
      obtain ⟨z1, z2, z3, z4, z5⟩ := z
      split <;> omega
  · wtm_at "s"
    exact kk _ (ff_iff fun z => z.1 c1)
abbrev sp_is_way (K : PySem.W.Frag) : Sp := fun vs H Q E => ∃ v0 v1, vs = [v0, v1] ∧ pr_is_way K v0 v1 H Q E
theorem ok_is_way (T : Txt K mg A) : FnOk P w K mg base CX0 2 A.a_is_way A.d_is_way ["net", "way"] (sp_is_way K) := by
  refine T.F_is_way.ok sc_is_way (fun vs H Q E h => by obtain ⟨v0, v1, rfl, _⟩ := h; rfl) (fun cdv A0 outer s H vs Q E hr h => ?_)
  obtain ⟨v0, v1, rfl, h⟩ := h
  exact ⟨t_is_way K, (pss_cons (ps_asg (pv 1) (pg_tup (by rfl) (pgs_cons (pg_name (i := 2) sc_is_way.nd rfl (Or.inl rfl)) (pgs_cons (pg_name (i := 3) sc_is_way.nd rfl (Or.inl rfl)) pgs_nil))))
      (pss_one (ps_ret (pe_and (pe_cmpR op_ne (pv 2) (pv 3) (nomark _)) (pe_and (pe_cmpR op_ge (pe_callB (q_min2 (by rfl)) (by rfl) T.z_min (by decide +kernel) (pa_cons (pv 2) (pa_cons (pv 3) pa_nil))) pe_int (nomark _)) (pe_one (pe_cmpR op_lt (pe_callB (q_max2 (by rfl)) (by rfl) T.z_max (by decide +kernel) (pa_cons (pv 2) (pa_cons (pv 3) pa_nil))) (pe_call (ok_places_of T) (hr.mono (by decide)) (by rfl) T.g_places_of T.F_places_of.kp T.b_places_of .nil pass0 (pa_cons (pv 0) pa_nil)) (nomark _)))))))), pure_is_way h⟩


theorem below_lt {ps : List Int} {k : Nat} : ∀ x, x < k → below ps k x = false
  | 0, h => by unfold below; exact decide_eq_false (by omega)
  | x + 1, h => by
    unfold below
    rw [decide_eq_false (show ¬ k = x + 1 by omega), decide_eq_false (show ¬ k < x + 1 by omega)]; rfl
theorem below_self {ps : List Int} (k : Nat) : below ps k k = true := by
  cases k with
  | zero => unfold below; rfl
  | succ x => unfold below; rw [decide_eq_true rfl]; rfl
theorem below_step {ps : List Int} (h : TreeOk ps) {k x : Nat} (hx : x < ps.length) (hk : k ≠ x + 1) : below ps k (x + 1) = below ps k (ps.getD x 0).toNat := by
  have hp := h.2.2 x hx
  have hlt : (ps.getD x 0).toNat < x + 1 := by omega
  rw [below, decide_eq_false hk, Bool.false_or, dif_pos hlt]
  by_cases c : k < x + 1
  · rw [decide_eq_true c, Bool.true_and]
  · rw [decide_eq_false c, Bool.false_and, below_lt _ (by omega)]
theorem ring_step {n a b t : Int} (a0 : 0 ≤ a) (a1 : a < n) (b0 : 0 ≤ b) (b1 : b < n) (ne : a ≠ b) (t0 : 0 ≤ t) (t1 : t < n) :
    (up n a t < up n a b ↔ t = a ∨ up n ((a + 1) % n) t < up n ((a + 1) % n) b) ∧ (t = a → ¬ up n ((a + 1) % n) t < up n ((a + 1) % n) b) := by
  have e : (a + 1) % n = if a + 1 = n then 0 else a + 1 := by
    split
    · rename_i h; rw [h]; exact Int.emod_self
    · exact Int.emod_eq_of_lt (by omega) (by omega)
  rw [e]
  unfold up
  constructor
  · constructor
    · intro h; repeat' split at h
      all_goals repeat' split
      all_goals omega
    · intro h; repeat' split at h
      all_goals repeat' split
      all_goals omega
  · intro h; subst h
    repeat' split
    all_goals omega
theorem ring_far {n a b : Int} (a0 : 0 ≤ a) (a1 : a < n) (b0 : 0 ≤ b) (b1 : b < n) (ne : a ≠ b) : up n ((a + 1) % n) b = up n a b - 1 ∧ 0 ≤ (a + 1) % n ∧ (a + 1) % n < n ∧ 0 < up n a b ∧ up n a b < n := by
  have e : (a + 1) % n = if a + 1 = n then 0 else a + 1 := by
    split
    · rename_i h; rw [h]; exact Int.emod_self
    · exact Int.emod_eq_of_lt (by omega) (by omega)
  rw [e]
  unfold up
  refine ⟨?_, ?_, ?_, ?_, ?_⟩ <;> repeat' split
  all_goals omega
theorem up_self (n a : Int) : up n a a = 0 := by unfold up; split <;> omega
theorem up_nonneg {n a b : Int} (a0 : 0 ≤ a) (a1 : a < n) (b0 : 0 ≤ b) (b1 : b < n) : 0 ≤ up n a b := by unfold up; split <;> omega
/-- the greater end climbs -/
theorem tree_step {ps : List Int} (h : TreeOk ps) {x y t : Int} (x0 : 0 ≤ x) (x1 : x < ps.length + 1) (y0 : 0 ≤ y) (yx : y < x) (t0 : 0 ≤ t) :
    (below ps (t.toNat + 1) x.toNat ≠ below ps (t.toNat + 1) y.toNat ↔ t = x - 1 ∨ below ps (t.toNat + 1) (ps.getD (x - 1).toNat 0).toNat ≠ below ps (t.toNat + 1) y.toNat) ∧
    (t = x - 1 → ¬ below ps (t.toNat + 1) (ps.getD (x - 1).toNat 0).toNat ≠ below ps (t.toNat + 1) y.toNat) := by
  have hp := h.2.2 (x - 1).toNat (by omega)
  by_cases c : t = x - 1
  · subst c
    have e1 : (x - 1).toNat + 1 = x.toNat := by omega
    rw [e1, below_self, below_lt y.toNat (by omega), below_lt (ps.getD (x - 1).toNat 0).toNat (by omega)]
    simp
  · have e1 : x.toNat = (x - 1).toNat + 1 := by omega
    have := below_step h (k := t.toNat + 1) (x := (x - 1).toNat) (by omega) (by omega)
    rw [e1, this]
    simp [c]
theorem srt_of {fs ns : List Int} (nd : fs.Nodup) (pm : ns.Perm fs) (srt : ns.Pairwise (· ≤ ·)) : ns.Pairwise (· < ·) := by
  have := srt.and (pm.nodup_iff.mpr nd)
  exact this.imp fun ⟨a, b⟩ => by omega
def pr_ties_on (K : PySem.W.Frag) (v0 v1 : V) (H : Hp) (Q : VK) (_ : XK) : Prop := ∃ (N : Net) (a b : Int), Dp K H v0 N.d ∧ Dp K H v1 (dPair (a, b)) ∧ N.ok ∧ isWay N a b ∧ ∀ p ns H', H p = none → Same H H' → H' p = some (.lst (List.map V.int ns)) → TiesOf N a b ns → Q (.ref p) H'
def t_ties_on (K : PySem.W.Frag) : TS :=
  (tSeq (tAsg (tVar 1) (gTup K 2 (gCons (gName 2) (gCons (gName 3) gNil))))
    (tSeq (tAsg (tLst tNil) (gName 4))
    (tSeq (tIfS (tTest (tOp rEq (tOp (rIxT K) (tVar 0) (tC (.int 0))) (tC (.str (Str.ofString "line"))))) (tRet (tLstRg (tRg2 (tCB rMin2 (tCons (tVar 2) (tCons (tVar 3) tNil))) (tCB rMax2 (tCons (tVar 2) (tCons (tVar 3) tNil)))))) tNext)
    (tSeq (tWhile (tTest (tOp rNe (tVar 2) (tVar 3)))
      (tIfS (tTest (tOp rEq (tOp (rIxT K) (tVar 0) (tC (.int 0))) (tC (.str (Str.ofString "ring"))))) (tSeq (tDrop (tBM K "list" rAppend (tVar 4) (tCons (tVar 2) tNil)))
    (tAsg (tOp xMod (tOp xAdd (tVar 2) (tC (.int 1))) (tOp (rIxT K) (tVar 0) (tC (.int 1)))) (gName 2))) (tIfS (tTest (tOp xGt (tVar 2) (tVar 3))) (tSeq (tDrop (tBM K "list" rAppend (tVar 4) (tCons (tOp xSub (tVar 2) (tC (.int 1))) tNil)))
    (tAsg (tOp (rIxL K) (tOp (rIxT K) (tVar 0) (tC (.int 1))) (tOp xSub (tVar 2) (tC (.int 1)))) (gName 2))) (tSeq (tDrop (tBM K "list" rAppend (tVar 4) (tCons (tOp xSub (tVar 3) (tC (.int 1))) tNil)))
    (tAsg (tOp (rIxL K) (tOp (rIxT K) (tVar 0) (tC (.int 1))) (tOp xSub (tVar 3) (tC (.int 1)))) (gName 3))))))
    (tRet (tCB (rSortedI K) (tCons (tVar 4) tNil)))))))
def Net.far2 (N : Net) (a b a' b' : Int) (fs : List Int) (m : Nat) : Prop := match N with
  | .line _ => True
  | .ring n => (m : Int) = up n a' b' ∧ (fs.length : Int) + m = up n a b
  | .tree _ => (m : Int) = a' + b' ∧ (fs.length : Int) + m ≤ a + b
theorem pure_ties_on {v0 v1 : V} {H : Hp} {Q : VK} {E : XK} (h : pr_ties_on K v0 v1 H Q E) : t_ties_on K ⟨fun _ H' => Q .non H', Q, fun _ _ => False, fun _ _ => False⟩ [some v0, some v1, none, none, none] H := by
  obtain ⟨N, a, b, hd, hw, ok, ⟨w1, w2, w3, w4, w5⟩, q⟩ := h
  obtain ⟨c, y, rfl, hs, hy⟩ := dp_net hd
  obtain ⟨p, rfl, hp⟩ := dp_pair hw
  unfold t_ties_on
  wtm_at "s"
  refine ⟨sz (by simp), fun fo nfo => ?_⟩
  have s1 := same_new (o := .lst []) nfo
  have e1 : upd H fo (.lst []) fo = some (.lst (List.map V.int [])) := upd_same
  generalize upd H fo (.lst []) = H1 at s1 e1 ⊢
  wtm_at "s"
  refine k_eqS ?_
  have loop : ∀ (nx : L2.St → Hp → Prop) (bk ct : L2.St → Hp → Prop), (match N with | .line _ => False | _ => True) → ∀ (W : Nat → L2.St → Hp → Prop), True := fun _ _ _ _ _ => trivial
  cases N with
  | line n =>
    obtain rfl := dp_int hy
    rw [show Net.kind (.line n) = Str.ofString "line" from rfl, s_same]
    obtain ⟨o1, o2⟩ := ok
    have w4' : a < n := w4
    have w5' : b < n := w5
    wtm_at "s"
    have hmn : (if b < a then b else a) = min a b := by split <;> omega
    have hmx : (if b > a then b else a) = max a b := by split <;> omega
    rw [hmn, hmx]
    refine ⟨.of_le (by omega) (by omega) (by omega) (by omega), fun l nl => ?_⟩
    refine q l ((List.range (max a b - min a b).toNat).map fun i => min a b + (i : Nat)) _ (s1.free nl) (s1.trans (same_new nl)) (by rw [upd_same, rg_ints]) ⟨?_, fun t => ?_, ?_⟩
    · exact List.pairwise_map.mpr (List.pairwise_lt_range.imp fun h => by omega)
    · show _ ↔ min a b ≤ t ∧ t < max a b
      rw [List.mem_map]
      constructor
      · rintro ⟨i, hi, rfl⟩
        have := List.mem_range.mp hi
        omega
      · intro h
        exact ⟨(t - min a b).toNat, List.mem_range.mpr (by omega), by omega⟩
    · show ((List.map _ _).length : Int) = max a b - min a b
      rw [List.length_map, List.length_range]
      omega
  | ring n =>
    obtain rfl := dp_int hy
    rw [show Net.kind (.ring n) = Str.ofString "ring" from rfl] at hs ⊢
    rw [s_rl]
    obtain ⟨o1, o2⟩ := ok
    have w4' : a < n := w4
    have w5' : b < n := w5
    have u0 := up_nonneg w2 w4' w3 w5'
    wtm_at "s"
    refine ⟨fun m σ' H' => ∃ a' fs, σ' = [some (.ref c), some (.ref p), some (.int a'), some (.int b), some (.ref fo)] ∧ Same H H' ∧ H' fo = some (.lst (List.map V.int fs)) ∧ 0 ≤ a' ∧ a' < n ∧ fs.Nodup ∧ (m : Int) = up n a' b ∧ (fs.length : Int) + m = up n a b ∧
      (∀ t, OnTie (.ring n) a b t ↔ t ∈ fs ∨ OnTie (.ring n) a' b t) ∧ (∀ t, t ∈ fs → ¬ OnTie (.ring n) a' b t),
      ⟨(up n a b).toNat, a, [], rfl, s1, e1, w2, w4', List.nodup_nil, by omega, by simp; omega, fun t => by simp, fun t z => by cases z⟩, ?_⟩
    rintro m σ' H' ⟨a', fs, rfl, sm, hf, a0, a1, nd, hm, hfl, ht, hn⟩
    wtm_at "s"
    refine k_itn (fun c1 => ?_) (fun c1 => ?_)
    · obtain ⟨f1, f2, f3, f4, f5⟩ := ring_far a0 a1 w3 w5' c1
      have uab : up n a b < n := by unfold up; split <;> omega
      refine ⟨fun σ' H' => ∃ fs', σ' = [some (.ref c), some (.ref p), some (.int ((a' + 1) % n)), some (.int b), some (.ref fo)] ∧ Same H H' ∧ H' fo = some (.lst (List.map V.int fs')) ∧ fs'.Nodup ∧ (fs'.length : Int) + (m - 1 : Nat) = up n a b ∧
        (∀ t, OnTie (.ring n) a b t ↔ t ∈ fs' ∨ OnTie (.ring n) ((a' + 1) % n) b t) ∧ (∀ t, t ∈ fs' → ¬ OnTie (.ring n) ((a' + 1) % n) b t), fun σ' H' ⟨fs', e, g1, g2, g3, g4, g5, g6⟩ => ⟨m - 1, by omega, _, fs', e, g1, g2, f2, f3, g3, by omega, g4, g5, g6⟩, ?_⟩
      have hs' : SqT K H' c [.str (Str.ofString "ring"), .int n] := same_seqT sm hs
      wtm_at "s"
      refine k_eqS ?_
      rw [s_same]
      wtm_at "s"
      refine k_tyL (sl hf) ?_
      wtm_at "s"
      refine k_append hf (by rw [List.length_map]; omega) ?_
      have hs2 : SqT K (upd H' fo (.lst (List.map V.int fs ++ [.int a']))) c [.str (Str.ofString "ring"), .int n] := same_seqT (same_mut sm nfo) hs
      wtm_at "s"
      refine ⟨fs ++ [a'], rfl, same_mut sm nfo, by rw [upd_same, List.map_append]; rfl, ?_, ?_, fun t => ?_, fun t z => ?_⟩
      · refine List.nodup_append.mpr ⟨nd, by simp, fun x hx y hy e => ?_⟩
        have : y = a' := by simpa using hy
        subst this; subst e
        exact hn x hx ⟨a0, a1, by rw [up_self]; exact f4⟩
      · rw [List.length_append]; show ((fs.length + 1 : Nat) : Int) + _ = _; omega
      · rw [ht t, List.mem_append]
        show t ∈ fs ∨ (0 ≤ t ∧ t < n ∧ up n a' t < up n a' b) ↔ (t ∈ fs ∨ t ∈ [a']) ∨ (0 ≤ t ∧ t < n ∧ _)
        by_cases r : 0 ≤ t ∧ t < n
        · have st := (ring_step a0 a1 w3 w5' c1 r.1 r.2).1
          simp only [r.1, r.2, true_and, List.mem_singleton, st, or_assoc]
        · have : t ≠ a' := fun e => r (by omega)
          constructor
          · rintro (h | h)
            · exact .inl (.inl h)
            · exact absurd ⟨h.1, h.2.1⟩ r
          · rintro ((h | h) | h)
            · exact .inl h
            · exact absurd (by simpa using h) this
            · exact absurd ⟨h.1, h.2.1⟩ r
      · rcases List.mem_append.mp z with z | z
        · intro o
          obtain ⟨o1, o2, o3⟩ := o
          exact hn t z ⟨o1, o2, (ring_step a0 a1 w3 w5' c1 o1 o2).1.mpr (.inr o3)⟩
        · have e : t = a' := by simpa using z
          intro o
          obtain ⟨o1, o2, o3⟩ := o
          exact (ring_step a0 a1 w3 w5' c1 o1 o2).2 e o3
    · subst c1
      rw [up_self] at hm
      wtm_at "s"
      refine k_sortedI (sl hf) (fun ns l pm srt nl => ?_)
      refine q l ns _ (sm.free nl) (sm.trans (same_new nl)) upd_same ⟨srt_of nd pm srt, fun t => ?_, ?_⟩
      · rw [pm.mem_iff, ht t]
        constructor
        · exact .inl
        · rintro (h | h)
          · exact h
          · obtain ⟨_, _, h⟩ := h
            rw [up_self] at h
            have := up_nonneg a0 a1 (b := t) (by assumption) (by assumption)
            omega
      · show (ns.length : Int) = up n a a'
        rw [pm.length_eq]; omega
  | tree ps =>
    obtain ⟨d, rfl, hdl⟩ := dp_ints hy
    rw [show Net.kind (.tree ps) = Str.ofString "tree" from rfl] at hs ⊢
    rw [s_tl]
    have w4' : a < ps.length + 1 := w4
    have w5' : b < ps.length + 1 := w5
    have l60 := ok.2.1
    wtm_at "s"
    refine ⟨fun m σ' H' => ∃ a' b' fs, σ' = [some (.ref c), some (.ref p), some (.int a'), some (.int b'), some (.ref fo)] ∧ Same H H' ∧ H' fo = some (.lst (List.map V.int fs)) ∧ 0 ≤ a' ∧ a' < ps.length + 1 ∧ 0 ≤ b' ∧ b' < ps.length + 1 ∧ fs.Nodup ∧ (m : Int) = a' + b' ∧ (fs.length : Int) + m ≤ a + b ∧
      (∀ t, OnTie (.tree ps) a b t ↔ t ∈ fs ∨ OnTie (.tree ps) a' b' t) ∧ (∀ t, t ∈ fs → ¬ OnTie (.tree ps) a' b' t),
      ⟨(a + b).toNat, a, b, [], rfl, s1, e1, w2, w4', w3, w5', List.nodup_nil, by omega, by simp; omega, fun t => by simp, fun t z => by cases z⟩, ?_⟩
    rintro m σ' H' ⟨a', b', fs, rfl, sm, hf, a0, a1, b0, b1, nd, hm, hfl, ht, hn⟩
    wtm_at "s"
    refine k_itn (fun c1 => ?_) (fun c1 => ?_)
    · refine ⟨fun σ' H' => ∃ m' a2 b2 fs', m' < m ∧ σ' = [some (.ref c), some (.ref p), some (.int a2), some (.int b2), some (.ref fo)] ∧ Same H H' ∧ H' fo = some (.lst (List.map V.int fs')) ∧ 0 ≤ a2 ∧ a2 < ps.length + 1 ∧ 0 ≤ b2 ∧ b2 < ps.length + 1 ∧ fs'.Nodup ∧ (m' : Int) = a2 + b2 ∧ (fs'.length : Int) + m' ≤ a + b ∧
        (∀ t, OnTie (.tree ps) a b t ↔ t ∈ fs' ∨ OnTie (.tree ps) a2 b2 t) ∧ (∀ t, t ∈ fs' → ¬ OnTie (.tree ps) a2 b2 t), fun σ' H' ⟨m', a2, b2, fs', l, r⟩ => ⟨m', l, a2, b2, fs', r⟩, ?_⟩
      have hs' : SqT K H' c [.str (Str.ofString "tree"), .ref d] := same_seqT sm hs
      wtm_at "s"
      refine k_eqS ?_
      rw [s_tr]
      wtm_at "s"
      refine k_it (fun c2 => ?_) (fun c2 => ?_)
      · have hpa := ok.2.2 (a' - 1).toNat (by omega)
        wtm_at "s"
        refine k_tyL (sl hf) ?_
        wtm_at "s"
        refine k_append hf (by rw [List.length_map]; omega) ?_
        have sm2 : Same H (upd H' fo (.lst (List.map V.int fs ++ [.int (a' - 1)]))) := same_mut sm nfo
        have hs2 : SqT K (upd H' fo (.lst (List.map V.int fs ++ [.int (a' - 1)]))) c [.str (Str.ofString "tree"), .ref d] := same_seqT sm2 hs
        wtm_at "s"
        refine k_ixI (sm2.seq hdl) (by omega) (by omega) ?_
        wtm_at "s"
        refine ⟨(ps.getD (a' - 1).toNat 0 + b').toNat, _, _, fs ++ [a' - 1], by omega, rfl, sm2, by rw [upd_same, List.map_append]; rfl, by omega, by omega, b0, b1, ?_, by omega, ?_, fun t => ?_, fun t z => ?_⟩
        · refine List.nodup_append.mpr ⟨nd, by simp, fun x hx y hy e => ?_⟩
          have : y = a' - 1 := by simpa using hy
          subst this; subst e
          exact hn _ hx ⟨by omega, by omega, (tree_step ok a0 a1 b0 c2 (by omega)).1.mpr (.inl rfl)⟩
        · rw [List.length_append]; show ((fs.length + 1 : Nat) : Int) + _ ≤ _; omega
        · rw [ht t, List.mem_append]
          show t ∈ fs ∨ (0 ≤ t ∧ t < ps.length ∧ _) ↔ (t ∈ fs ∨ t ∈ [a' - 1]) ∨ (0 ≤ t ∧ t < ps.length ∧ _)
          by_cases r : 0 ≤ t ∧ t < ps.length
          · have st := (tree_step ok a0 a1 b0 c2 r.1).1
            simp only [r.1, r.2, true_and, List.mem_singleton, st, or_assoc]
          · have : t ≠ a' - 1 := fun e => r (by omega)
            constructor
            · rintro (h | h)
              · exact .inl (.inl h)
              · exact absurd ⟨h.1, h.2.1⟩ r
            · rintro ((h | h) | h)
              · exact .inl h
              · exact absurd (by simpa using h) this
              · exact absurd ⟨h.1, h.2.1⟩ r
        · rcases List.mem_append.mp z with z | z
          · rintro ⟨o1, o2, o3⟩
            exact hn t z ⟨o1, o2, (tree_step ok a0 a1 b0 c2 o1).1.mpr (.inr o3)⟩
          · have e : t = a' - 1 := by simpa using z
            rintro ⟨o1, o2, o3⟩
            exact (tree_step ok a0 a1 b0 c2 o1).2 e o3
      · have c3 : a' < b' := by omega
        have hpb := ok.2.2 (b' - 1).toNat (by omega)
        have sym : ∀ u v t, OnTie (.tree ps) u v t ↔ OnTie (.tree ps) v u t := fun u v t => by
          show (_ ∧ _ ∧ _ ≠ _) ↔ (_ ∧ _ ∧ _ ≠ _)
          constructor
          · rintro ⟨x1, x2, x3⟩; exact ⟨x1, x2, x3.symm⟩
          · rintro ⟨x1, x2, x3⟩; exact ⟨x1, x2, x3.symm⟩
        wtm_at "s"
        refine k_tyL (sl hf) ?_
        wtm_at "s"
        refine k_append hf (by rw [List.length_map]; omega) ?_
        have sm2 : Same H (upd H' fo (.lst (List.map V.int fs ++ [.int (b' - 1)]))) := same_mut sm nfo
        have hs2 : SqT K (upd H' fo (.lst (List.map V.int fs ++ [.int (b' - 1)]))) c [.str (Str.ofString "tree"), .ref d] := same_seqT sm2 hs
        wtm_at "s"
        refine k_ixI (sm2.seq hdl) (by omega) (by omega) ?_
        wtm_at "s"
        refine ⟨(a' + ps.getD (b' - 1).toNat 0).toNat, _, _, fs ++ [b' - 1], by omega, rfl, sm2, by rw [upd_same, List.map_append]; rfl, a0, a1, by omega, by omega, ?_, by omega, ?_, fun t => ?_, fun t z => ?_⟩
        · refine List.nodup_append.mpr ⟨nd, by simp, fun x hx y hy e => ?_⟩
          have : y = b' - 1 := by simpa using hy
          subst this; subst e
          exact hn _ hx ((sym _ _ _).mpr ⟨by omega, by omega, (tree_step ok b0 b1 a0 c3 (by omega)).1.mpr (.inl rfl)⟩)
        · rw [List.length_append]; show ((fs.length + 1 : Nat) : Int) + _ ≤ _; omega
        · rw [ht t, List.mem_append, sym a' b', sym a' (ps.getD (b' - 1).toNat 0)]
          show t ∈ fs ∨ (0 ≤ t ∧ t < ps.length ∧ _) ↔ (t ∈ fs ∨ t ∈ [b' - 1]) ∨ (0 ≤ t ∧ t < ps.length ∧ _)
          by_cases r : 0 ≤ t ∧ t < ps.length
          · have st := (tree_step ok b0 b1 a0 c3 r.1).1
            simp only [r.1, r.2, true_and, List.mem_singleton, st, or_assoc]
          · have : t ≠ b' - 1 := fun e => r (by omega)
            constructor
            · rintro (h | h)
              · exact .inl (.inl h)
              · exact absurd ⟨h.1, h.2.1⟩ r
            · rintro ((h | h) | h)
              · exact .inl h
              · exact absurd (by simpa using h) this
              · exact absurd ⟨h.1, h.2.1⟩ r
        · rw [sym]
          rcases List.mem_append.mp z with z | z
          · rintro ⟨o1, o2, o3⟩
            exact hn t z ((sym _ _ _).mpr ⟨o1, o2, (tree_step ok b0 b1 a0 c3 o1).1.mpr (.inr o3)⟩)
          · have e : t = b' - 1 := by simpa using z
            rintro ⟨o1, o2, o3⟩
            exact (tree_step ok b0 b1 a0 c3 o1).2 e o3
    · subst c1
      wtm_at "s"
      refine k_sortedI (sl hf) (fun ns l pm srt nl => ?_)
      refine q l ns _ (sm.free nl) (sm.trans (same_new nl)) upd_same ⟨srt_of nd pm srt, fun t => ?_, ?_⟩
      · rw [pm.mem_iff, ht t]
        constructor
        · exact .inl
        · rintro (h | h)
          · exact h
          · exact absurd rfl h.2.2
      · show ns.length < 120
        rw [pm.length_eq]; omega
abbrev sp_ties_on (K : PySem.W.Frag) : Sp := fun vs H Q E => ∃ v0 v1, vs = [v0, v1] ∧ pr_ties_on K v0 v1 H Q E
theorem ok_ties_on (T : Txt K mg A) : FnOk P w K mg base CX0 1 A.a_ties_on A.d_ties_on ["net", "way"] (sp_ties_on K) := by
  refine T.F_ties_on.ok sc_ties_on (fun vs H Q E h => by obtain ⟨v0, v1, rfl, _⟩ := h; rfl) (fun cdv A0 outer s H vs Q E hr h => ?_)
  obtain ⟨v0, v1, rfl, h⟩ := h
  exact ⟨t_ties_on K, (pss_cons (ps_asg (pv 1) (pg_tup (by rfl) (pgs_cons (pg_name (i := 2) sc_ties_on.nd rfl (Or.inl rfl)) (pgs_cons (pg_name (i := 3) sc_ties_on.nd rfl (Or.inl rfl)) pgs_nil))))
      (pss_cons (ps_set (i := 4) sc_ties_on.nd rfl (Or.inl rfl) (pe_lst pa_nil))
      (pss_cons (ps_if (pt_cmpR op_eq (pe_ix ix_tup (pv 0) pe_int (fun _ _ => rfl)) pe_str (nomark _)) (pss_one (ps_ret (pe_listRg (by rfl) (by rfl) T.z_list (prg_2 (by rfl) T.z_range (pe_callB (q_min2 (by rfl)) (by rfl) T.z_min (by decide +kernel) (pa_cons (pv 2) (pa_cons (pv 3) pa_nil))) (pe_callB (q_max2 (by rfl)) (by rfl) T.z_max (by decide +kernel) (pa_cons (pv 2) (pa_cons (pv 3) pa_nil))))))) pss_nil)
      (pss_cons (ps_while PassesOwn.never (pt_cmpR op_ne (pv 2) (pv 3) (nomark _))
      (pss_one (ps_if (pt_cmpR op_eq (pe_ix ix_tup (pv 0) pe_int (fun _ _ => rfl)) pe_str (nomark _)) (pss_cons (ps_expr (pe_bm PySem.F.plainAttrs_list PySem.F.slot_list_append PySem.F.type_list_append mt_append (pv 4) (pa_cons (pv 2) pa_nil)))
      (pss_one (ps_set (i := 2) sc_ties_on.nd rfl (Or.inl rfl) (pe_op op_mod (pe_op op_add (pv 2) pe_int) (pe_ix ix_tup (pv 0) pe_int (fun _ _ => rfl)))))) (pss_one (ps_if (pt_cmpR op_gt (pv 2) (pv 3) (nomark _)) (pss_cons (ps_expr (pe_bm PySem.F.plainAttrs_list PySem.F.slot_list_append PySem.F.type_list_append mt_append (pv 4) (pa_cons (pe_op op_sub (pv 2) pe_int) pa_nil)))
      (pss_one (ps_set (i := 2) sc_ties_on.nd rfl (Or.inl rfl) (pe_ix ix_list (pe_ix ix_tup (pv 0) pe_int (fun _ _ => rfl)) (pe_op op_sub (pv 2) pe_int) (fun _ _ => rfl))))) (pss_cons (ps_expr (pe_bm PySem.F.plainAttrs_list PySem.F.slot_list_append PySem.F.type_list_append mt_append (pv 4) (pa_cons (pe_op op_sub (pv 3) pe_int) pa_nil)))
      (pss_one (ps_set (i := 3) sc_ties_on.nd rfl (Or.inl rfl) (pe_ix ix_list (pe_ix ix_tup (pv 0) pe_int (fun _ _ => rfl)) (pe_op op_sub (pv 3) pe_int) (fun _ _ => rfl))))))))))
      (pss_one (ps_ret (pe_callB cr_sortedI (by rfl) T.z_sorted (by decide +kernel) (pa_cons (pv 4) pa_nil)))))))), pure_ties_on h⟩


def pr_must_be_ways (K : PySem.W.Frag) (v0 v1 : V) (H : Hp) (Q : VK) (_ : XK) : Prop := ∃ (N : Net) (ws : List (Int × Int)), Dp K H v0 N.d ∧ Dp K H v1 (dPairs ws) ∧ ws.length ≤ 10000 ∧ (∀ w ∈ ws, isWay N w.1 w.2) ∧ Q .non H
def t_must_be_ways (K : PySem.W.Frag) : TS :=
  (tFor (iRng1 (tCons (tCB (rLen K) (tCons (tVar 1) tNil)) tNil)) (gName 2)
      (tIfS (tNot (tB (tCall (sp_is_way K) [] E0 (tCons (tVar 0) (tCons (tOp (rIxL K) (tVar 1) (tVar 2)) tNil))))) tNever tNext))
theorem pure_must_be_ways {v0 v1 : V} {H : Hp} {Q : VK} {E : XK} (h : pr_must_be_ways K v0 v1 H Q E) : t_must_be_ways K ⟨fun _ H' => Q .non H', Q, fun _ _ => False, fun _ _ => False⟩ [some v0, some v1, none] H := by
  obtain ⟨N, ws, hd, hw, hz, hok, q⟩ := h
  obtain ⟨b, xs, rfl, hb, hxs⟩ := dp_list hw
  have hl := dpa_len hxs
  rw [List.length_map] at hl
  unfold t_must_be_ways
  wtm_at "s"
  rw [hl]
  refine forR (fun i σ' H' => H' = H ∧ ∃ k, σ' = [some v0, some (.ref b), k]) ⟨rfl, none, rfl⟩ ?_ (fun σ' H' ⟨e, _⟩ => e ▸ q)
  rintro i σ' H' hi ⟨rfl, k, rfl⟩
  have hi' : i < xs.length := by omega
  obtain ⟨x, hx⟩ : ∃ x, xs[i]? = some x := ⟨xs[i], List.getElem?_eq_getElem hi'⟩
  obtain ⟨d, hd1, hd2⟩ := dpa_get hxs hx
  rw [List.getElem?_map] at hd1
  obtain ⟨w, hw1, rfl⟩ := Option.map_eq_some_iff.mp hd1
  have wok := hok w (List.mem_of_getElem? hw1)
  wtm_at "s"
  refine k_ixL hb (by rw [Int.zero_add]; exact atI_nat hx) ?_
  wtm_at "s"
  refine ⟨_, _, rfl, N, w.1, w.2, hd, hd2, ?_⟩
  rw [decide_eq_true wok]
  wtm_at "s"
  exact ⟨rfl, _, rfl⟩
abbrev sp_must_be_ways (K : PySem.W.Frag) : Sp := fun vs H Q E => ∃ v0 v1, vs = [v0, v1] ∧ pr_must_be_ways K v0 v1 H Q E
theorem ok_must_be_ways (T : Txt K mg A) : FnOk P w K mg base CX0 3 A.a_must_be_ways A.d_must_be_ways ["net", "ways"] (sp_must_be_ways K) := by
  refine T.F_must_be_ways.ok sc_must_be_ways (fun vs H Q E h => by obtain ⟨v0, v1, rfl, _⟩ := h; rfl) (fun cdv A0 outer s H vs Q E hr h => ?_)
  obtain ⟨v0, v1, rfl, h⟩ := h
  exact ⟨t_must_be_ways K, (pss_one (ps_for PassesOwn.never rfl (pi_range1 (by rfl) T.z_range (pa_cons (pe_callB q_len (by rfl) T.z_len (by decide +kernel) (pa_cons (pv 1) pa_nil)) pa_nil)) (pg_name (i := 2) sc_must_be_ways.nd rfl (Or.inl rfl))
      (pss_one (ps_if (pt_not (pt_val (pe_call (ok_is_way T) (hr.mono (by decide)) (by rfl) T.g_is_way T.F_is_way.kp T.b_is_way .nil pass0 (pa_cons (pv 0) (pa_cons (pe_ix ix_list (pv 1) (pv 2) (fun _ _ => rfl)) pa_nil))))) (pss_one ps_never) pss_nil)))), pure_must_be_ways h⟩


/-- the ties at a place -/
def hereB (ps : List Int) (p : Int) (k : Nat) : Bool := decide ((k : Int) + 1 = p) || decide (ps.getD k 0 = p)
def hereOf (ps : List Int) (p : Int) : List Int := ((List.range ps.length).filter (hereB ps p)).map fun k : Nat => (k : Int)
theorem here_fm (ps : List Int) (p : Int) : (List.range ps.length).filterMap (fun i => if hereB ps p i = true then some (V.int (0 + (i : Nat))) else none) = (hereOf ps p).map V.int := by
  unfold hereOf
  rw [List.map_map]
  induction (List.range ps.length) with
  | nil => rfl
  | cons x r ih =>
    by_cases c : hereB ps p x = true
    · rw [List.filterMap_cons, if_pos c, List.filter_cons, if_pos c]
      simp only [List.map_cons]
      rw [ih]
      simp
    · rw [List.filterMap_cons, if_neg c, List.filter_cons, if_neg c]
      exact ih
theorem here_srt (ps : List Int) (p : Int) : (hereOf ps p).Pairwise (· < ·) := by
  unfold hereOf
  exact List.pairwise_map.mpr ((List.pairwise_lt_range.filter _).imp fun h => by omega)
theorem here_len (ps : List Int) (p : Int) : (hereOf ps p).length ≤ ps.length := by
  unfold hereOf
  rw [List.length_map]
  exact Nat.le_trans (List.length_filter_le _ _) (by simp)
def pr_ties_at (K : PySem.W.Frag) (v0 v1 : V) (H : Hp) (Q : VK) (_ : XK) : Prop := ∃ (ps : List Int) (p : Int), v1 = .int p ∧ Dp K H v0 (Net.tree ps).d ∧ ps.length ≤ 1000 ∧ ∀ a H', H a = none → Same H H' → H' a = some (.lst ((hereOf ps p).map V.int)) → Q (.ref a) H'
def t_ties_at (K : PySem.W.Frag) : TS :=
  (tSeq (tAsg (tOp (rIxT K) (tVar 0) (tC (.int 1))) (gName 2))
    (tRet (tLc (iRng1 (tCons (tCB (rLen K) (tCons (tVar 2) tNil)) tNil)) (gName 3) (tOr (tTest (tOp rEq (tOp xAdd (tVar 3) (tC (.int 1))) (tVar 1))) (tTest (tOp rEq (tOp (rIxL K) (tVar 2) (tVar 3)) (tVar 1)))) (tVar 3) [3])))
theorem pure_ties_at {v0 v1 : V} {H : Hp} {Q : VK} {E : XK} (h : pr_ties_at K v0 v1 H Q E) : t_ties_at K ⟨fun _ H' => Q .non H', Q, fun _ _ => False, fun _ _ => False⟩ [some v0, some v1, none, none] H := by
  obtain ⟨ps, p, rfl, hd, hz, q⟩ := h
  obtain ⟨a, y, rfl, hs, hy⟩ := dp_net hd
  obtain ⟨b, rfl, hb⟩ := dp_ints hy
  unfold t_ties_at
  wtm_at "s"
  rw [Int.toNat_natCast]
  refine lc_pureR (by omega) (fun i => if hereB ps p i = true then some (V.int (0 + (i : Nat))) else none) ?_ (fun D H' nD sm hD => ?_)
  · intro i H' hi sm R R0 h1 h2
    wtm_at "s"
    have e0 : (0 + (i : Int)).toNat = i := by omega
    refine k_it (fun c => ?_) (fun c => ?_)
    · wtm_at "s"
      exact h1 _ (by rw [if_pos]; unfold hereB; rw [decide_eq_true (show (i : Int) + 1 = p by omega)]; rfl)
    · wtm_at "s"
      refine k_ixI (by wtm_at "sq") (by omega) (by omega) ?_
      rw [e0]
      wtm_at "s"
      refine k_it (fun c2 => ?_) (fun c2 => ?_)
      · wtm_at "s"
        exact h1 _ (by rw [if_pos]; unfold hereB; rw [decide_eq_true c2, Bool.or_true])
      · exact h2 (by rw [if_neg]; unfold hereB; rw [decide_eq_false c2, decide_eq_false (show ¬ (i : Int) + 1 = p by omega)]; decide)
  · rw [here_fm] at hD
    exact q D H' nD sm hD
abbrev sp_ties_at (K : PySem.W.Frag) : Sp := fun vs H Q E => ∃ v0 v1, vs = [v0, v1] ∧ pr_ties_at K v0 v1 H Q E
theorem ok_ties_at (T : Txt K mg A) : FnOk P w K mg base CX0 1 A.a_ties_at A.d_ties_at ["net", "place"] (sp_ties_at K) := by
  refine T.F_ties_at.ok sc_ties_at (fun vs H Q E h => by obtain ⟨v0, v1, rfl, _⟩ := h; rfl) (fun cdv A0 outer s H vs Q E hr h => ?_)
  obtain ⟨v0, v1, rfl, h⟩ := h
  exact ⟨t_ties_at K, (pss_cons (ps_set (i := 2) sc_ties_at.nd rfl (Or.inr rfl) (pe_ix ix_tup (pv 0) pe_int (fun _ _ => rfl)))
      (pss_one (ps_ret (pe_lc (own := [("k", 3)]) (by rfl) sc_ties_at.nd (pi_range1 (by rfl) T.z_range (pa_cons (pe_callB q_len (by rfl) T.z_len (by decide +kernel) (pa_cons (pv 2) pa_nil)) pa_nil)) (blkOk_by (own := [("k", 3)]) (N := ["net", "place", "parents", "k"]) (sc := defScope s_ties_at) (by decide +kernel)) (fun _ _ _ _ _ => (pg_name (i := 3) sc_ties_at.nd rfl (Or.inl rfl))) (fun _ _ _ _ _ => (pts_one (PW.pt (pw_or (pt_cmpR op_eq (pe_op op_add (pv 3) pe_int) (pv 1) (nomark _)) (pw_or1 (pt_cmpR op_eq (pe_ix ix_list (pv 2) (pv 3) (fun _ _ => rfl)) (pv 1) (nomark _))))))) (fun _ _ _ _ _ => (pv 3)))))), pure_ties_at h⟩
/-- the numbers, among hs, of those of ts that are there -/
def someOf (hs ts : List Int) : List Int := (ts.filter fun t => decide (t ∈ hs)).map fun t => ((hs.idxOf t : Nat) : Int)
theorem k_indexI {K : PySem.W.Frag} {H : Hp} {Q : VK} {p : Addr} {ns : List Int} {x : Int} (hs : SqL K H p (ns.map V.int)) (hx : x ∈ ns) (h : Q (.int (ns.idxOf x : Nat)) H) : rIndex K (.ref p) [.int x] H Q := by
  have hl : ns.idxOf x < ns.length := List.idxOf_lt_length_of_mem hx
  have hg : ns[ns.idxOf x]? = some x := by rw [List.getElem?_eq_getElem hl, List.getElem_idxOf hl]
  refine k_indexV (z := .int x) hs rfl (flat_ints ns) (by rw [List.getElem?_map, hg]; rfl) (by show (x == x) = true; simp) (fun m z' hm hz => ?_) h
  rw [List.getElem?_map] at hz
  obtain ⟨y, hy, rfl⟩ := Option.map_eq_some_iff.mp hz
  show (y == x) = false
  have hml : m < ns.length := by omega
  have e : y = ns[m] := by rw [List.getElem?_eq_getElem hml] at hy; exact (Option.some.inj hy).symm
  rw [e]
  have := List.not_of_lt_findIdx (p := (· == x)) (xs := ns) hm
  simpa using this
theorem some_srt {hs ts : List Int} (h1 : hs.Pairwise (· < ·)) (h2 : ts.Pairwise (· < ·)) : (someOf hs ts).Pairwise (· < ·) := by
  unfold someOf
  refine List.pairwise_map.mpr ((h2.filter _).imp_of_mem fun {x y} hx hy hxy => ?_)
  have mx : x ∈ hs := by simpa using (List.mem_filter.mp hx).2
  have my : y ∈ hs := by simpa using (List.mem_filter.mp hy).2
  have lx := List.idxOf_lt_length_of_mem mx
  have ly := List.idxOf_lt_length_of_mem my
  have gx : hs[hs.idxOf x] = x := List.getElem_idxOf lx
  have gy : hs[hs.idxOf y] = y := List.getElem_idxOf ly
  rcases Nat.lt_trichotomy (hs.idxOf x) (hs.idxOf y) with c | c | c
  · omega
  · have : x = y := by rw [← gx, ← gy]; simp only [c]
    omega
  · have := List.pairwise_iff_getElem.mp h1 _ _ ly lx c
    rw [gx, gy] at this
    omega
theorem some_fm (hs ts : List Int) : ts.filterMap (fun t => if decide (t ∈ hs) = true then some (V.int (hs.idxOf t : Nat)) else none) = (someOf hs ts).map V.int := by
  unfold someOf
  rw [List.map_map]
  induction ts with
  | nil => rfl
  | cons x r ih =>
    by_cases c : decide (x ∈ hs) = true
    · rw [List.filterMap_cons, if_pos c, List.filter_cons, if_pos c]
      simp only [List.map_cons]
      rw [ih]
      rfl
    · rw [List.filterMap_cons, if_neg c, List.filter_cons, if_neg c]
      exact ih
/-- first and last of a rising list -/
def ends (ns : List Int) : Int × Int := (ns.headD 0, ns.getLastD 0)
theorem ends_min {ns : List Int} {m : Int} (h : ns.Pairwise (· < ·)) (hm : m ∈ ns) (hl : ∀ y ∈ ns, m ≤ y) : m = (ends ns).1 := by
  cases ns with
  | nil => cases hm
  | cons x r =>
    show m = x
    have := hl x List.mem_cons_self
    rcases List.mem_cons.mp hm with e | e
    · exact e
    · have := (List.pairwise_cons.mp h).1 m e; omega
theorem ends_max : ∀ {ns : List Int} {m : Int}, ns.Pairwise (· < ·) → m ∈ ns → (∀ y ∈ ns, y ≤ m) → m = (ends ns).2
  | [], _, _, hm, _ => by cases hm
  | [x], m, _, hm, _ => by
    show m = x
    simpa using hm
  | x :: y :: r, m, h, hm, hl => by
    obtain ⟨h1, h2⟩ := List.pairwise_cons.mp h
    have hy := hl y (by simp)
    have hx := h1 y List.mem_cons_self
    have hm' : m ∈ y :: r := by
      rcases List.mem_cons.mp hm with e | e
      · omega
      · exact e
    have := ends_max h2 hm' fun z hz => hl z (List.mem_cons_of_mem _ hz)
    rw [this]
    rfl
/-- the ties of a way on a tree, rising -/
def treeTies (ps : List Int) (w : Int × Int) : List Int := ((List.range ps.length).filter fun t => decide (below ps (t + 1) w.1.toNat ≠ below ps (t + 1) w.2.toNat)).map fun t : Nat => (t : Int)
theorem treeTies_srt (ps : List Int) (w : Int × Int) : (treeTies ps w).Pairwise (· < ·) := by
  unfold treeTies
  exact List.pairwise_map.mpr ((List.pairwise_lt_range.filter _).imp fun h => by omega)
theorem treeTies_mem {ps : List Int} {w : Int × Int} {t : Int} : t ∈ treeTies ps w ↔ OnTie (.tree ps) w.1 w.2 t := by
  unfold treeTies
  rw [List.mem_map]
  show _ ↔ 0 ≤ t ∧ t < ps.length ∧ below ps (t.toNat + 1) w.1.toNat ≠ below ps (t.toNat + 1) w.2.toNat
  constructor
  · rintro ⟨i, hi, rfl⟩
    obtain ⟨h1, h2⟩ := List.mem_filter.mp hi
    have := List.mem_range.mp h1
    exact ⟨by omega, by omega, by rw [Int.toNat_natCast]; exact of_decide_eq_true h2⟩
  · rintro ⟨h0, h1, h2⟩
    exact ⟨t.toNat, List.mem_filter.mpr ⟨List.mem_range.mpr (by omega), decide_eq_true h2⟩, by omega⟩
theorem ss_ext : ∀ {xs ys : List Int}, xs.Pairwise (· < ·) → ys.Pairwise (· < ·) → (∀ t, t ∈ xs ↔ t ∈ ys) → xs = ys
  | [], [], _, _, _ => rfl
  | [], y :: ys, _, _, h => by have := (h y).mpr List.mem_cons_self; cases this
  | x :: xs, [], _, _, h => by have := (h x).mp List.mem_cons_self; cases this
  | x :: xs, y :: ys, h1, h2, h => by
    obtain ⟨a1, a2⟩ := List.pairwise_cons.mp h1
    obtain ⟨b1, b2⟩ := List.pairwise_cons.mp h2
    have e : x = y := by
      rcases List.mem_cons.mp ((h x).mp List.mem_cons_self) with e | e
      · exact e
      · rcases List.mem_cons.mp ((h y).mpr List.mem_cons_self) with e' | e'
        · exact e'.symm
        · have := b1 _ e; have := a1 _ e'; omega
    subst e
    congr 1
    refine ss_ext a2 b2 fun t => ?_
    constructor
    · intro ht
      rcases List.mem_cons.mp ((h t).mp (List.mem_cons_of_mem _ ht)) with e | e
      · have := a1 _ ht; omega
      · exact e
    · intro ht
      rcases List.mem_cons.mp ((h t).mpr (List.mem_cons_of_mem _ ht)) with e | e
      · have := b1 _ ht; omega
      · exact e
/-- what crossing_of tells of the first i ways -/
def wayAt (ps : List Int) (p : Int) (w : Int × Int) : List Int := someOf (hereOf ps p) (treeTies ps w)
def crPairs (ps : List Int) (p : Int) (ws : List (Int × Int)) : List (Int × Int) := ws.filterMap fun w => if wayAt ps p w = [] then none else some (ends (wayAt ps p w))
def crNums (ps : List Int) (p : Int) (ws : List (Int × Int)) (i : Nat) : List Int := ((List.range i).filter fun k => match ws[k]? with | some w => !decide (wayAt ps p w = []) | none => false).map fun k : Nat => (k : Int)
theorem crNums_succ {ps : List Int} {p : Int} {ws : List (Int × Int)} {i : Nat} {w : Int × Int} (h : ws[i]? = some w) : crNums ps p ws (i + 1) = crNums ps p ws i ++ if wayAt ps p w = [] then [] else [(i : Int)] := by
  unfold crNums
  rw [List.range_succ, List.filter_append, List.map_append]
  congr 1
  by_cases c : wayAt ps p w = [] <;> simp [h, c]
theorem crPairs_succ {ps : List Int} {p : Int} {ws : List (Int × Int)} {i : Nat} {w : Int × Int} (h : ws[i]? = some w) : crPairs ps p (ws.take (i + 1)) = crPairs ps p (ws.take i) ++ if wayAt ps p w = [] then [] else [ends (wayAt ps p w)] := by
  unfold crPairs
  rw [take_filterMap h]
  by_cases c : wayAt ps p w = []
  · rw [if_pos c, if_pos c]; rfl
  · rw [if_neg c, if_neg c]; rfl
/-- a crossing with its ways' numbers, all of it new -/
structure CrNew (K : PySem.W.Frag) (H H' : Hp) (p : Addr) (n : Int) (prs : List (Int × Int)) (nms : List Int) : Prop where
  same : Same H H'
  ex : ∃ q pl nl ys, H p = none ∧ H q = none ∧ H pl = none ∧ H nl = none ∧ pl ≠ nl ∧ H' p = some (.tup [.ref q, .ref nl]) ∧ H' q = some (.tup [.int n, .ref pl]) ∧ H' pl = some (.lst ys) ∧ (∀ S : List Addr, (∀ b ∈ S, H b ≠ none) → DpAll K (hid (pl :: nl :: S) H') ys (prs.map dPair)) ∧ H' nl = some (.lst (nms.map V.int))
abbrev dCrN (n : Int) (prs : List (Int × Int)) (nms : List Int) : PyData := .tuple [.tuple [.int n, dPairs prs], dInts nms]
theorem CrNew.dp {K : PySem.W.Frag} {H H' : Hp} {p : Addr} {n : Int} {prs : List (Int × Int)} {nms : List Int} (h : CrNew K H H' p n prs nms) : Dp K H' (.ref p) (dCrN n prs nms) := by
  obtain ⟨q, pl, nl, ys, _, _, _, _, _, h1, h2, h3, h4, h5⟩ := h.ex
  exact .tup (stp h1) (.cons (.tup (stp h2) (.cons (.int _) (.cons (.lst (sl h3) (dpa_same (hid_same _ _) (h4 [] (by simp)))) .nil))) (.cons (dp_of_ints (sl h5)) .nil))
/-- what is told lies in new places alone -/
theorem CrNew.dph {K : PySem.W.Frag} {H H' : Hp} {p : Addr} {n : Int} {prs : List (Int × Int)} {nms : List Int} (h : CrNew K H H' p n prs nms) {S : List Addr} (hS : ∀ b ∈ S, H b ≠ none) : Dp K (hid S H') (.ref p) (dCrN n prs nms) := by
  obtain ⟨q, pl, nl, ys, n1, n2, n3, n4, _, h1, h2, h3, h4, h5⟩ := h.ex
  have o : ∀ {b : Addr} {x : HO}, H b = none → H' b = some x → hid S H' b = some x := fun nb e => by rw [hid_ne fun z => hS _ z nb]; exact e
  exact .tup (stp (o n1 h1)) (.cons (.tup (stp (o n2 h2)) (.cons (.int _) (.cons (.lst (sl (o n3 h3)) (dpa_same (hid_sub fun a ha => by simp [ha]) (h4 S hS))) .nil))) (.cons (dp_of_ints (sl (o n4 h5))) .nil))
def pr_crossing_of (K : PySem.W.Frag) (v0 v1 v2 : V) (H : Hp) (Q : VK) (_ : XK) : Prop := ∃ (ps : List Int) (ws : List (Int × Int)) (x : Int), v2 = .int x ∧ Dp K H v0 (Net.tree ps).d ∧ TreeOk ps ∧ Dp K H v1 (dPairs ws) ∧ ws.length ≤ 1000 ∧ (∀ w ∈ ws, isWay (.tree ps) w.1 w.2) ∧
  ∀ p H', CrNew K H H' p (hereOf ps x).length (crPairs ps x ws) (crNums ps x ws ws.length) → Q (.ref p) H'
def t_crossing_of (K : PySem.W.Frag) : TS :=
  (tSeq (tAsg (tCall (sp_ties_at K) [] E0 (tCons (tVar 0) (tCons (tVar 2) tNil))) (gName 3))
    (tSeq (tAsg (tLst tNil) (gName 4))
    (tSeq (tAsg (tLst tNil) (gName 5))
    (tSeq (tFor (iRng1 (tCons (tCB (rLen K) (tCons (tVar 1) tNil)) tNil)) (gName 6)
      (tSeq (tAsg (tLc (iList K (tCall (sp_ties_on K) [] E0 (tCons (tVar 0) (tCons (tOp (rIxL K) (tVar 1) (tVar 6)) tNil)))) (gName 8) (tTest (tOp (rIn K false) (tVar 8) (tVar 3))) (tBM K "list" (rIndex K) (tVar 3) (tCons (tVar 8) tNil)) [8]) (gName 7))
    (tIfS (tTest (tOp xGt (tCB (rLen K) (tCons (tVar 7) tNil)) (tC (.int 0)))) (tSeq (tDrop (tBM K "list" rAppend (tVar 4) (tCons (tTup (tCons (tCB (rMin K) (tCons (tVar 7) tNil)) (tCons (tCB (rMax K) (tCons (tVar 7) tNil)) tNil))) tNil)))
    (tDrop (tBM K "list" rAppend (tVar 5) (tCons (tVar 6) tNil)))) tNext)))
    (tRet (tTup (tCons (tTup (tCons (tCB (rLen K) (tCons (tVar 3) tNil)) (tCons (tVar 4) tNil))) (tCons (tVar 5) tNil))))))))
theorem pure_crossing_of {v0 v1 v2 : V} {H : Hp} {Q : VK} {E : XK} (h : pr_crossing_of K v0 v1 v2 H Q E) : t_crossing_of K ⟨fun _ H' => Q .non H', Q, fun _ _ => False, fun _ _ => False⟩ [some v0, some v1, some v2, none, none, none, none, none, none] H := by
  obtain ⟨ps, ws, x, rfl, hd, ok, hw, hz, hok, q⟩ := h
  obtain ⟨b, xs, rfl, hb, hxs⟩ := dp_list hw
  have hl := dpa_len hxs
  rw [List.length_map] at hl
  have hpl := ok.2.1
  unfold t_crossing_of
  wtm_at "s"
  refine ⟨_, _, rfl, ps, x, rfl, hd, by omega, fun he H1 nhe s1 ehe => ?_⟩
  wtm_at "s"
  refine kL (by simp) (fun pl H2 npl s2 epl => ?_)
  wtm_at "s"
  refine kL (by simp) (fun nl H3 nnl s3 enl => ?_)
  have npl0 : H pl = none := s1.free npl
  have nnl0 : H nl = none := (s1.trans s2).free nnl
  have pn : pl ≠ nl := fun e => by rw [← e, epl] at nnl; cases nnl
  have lh := here_len ps x
  wtm_at "s"
  rw [hl]
  refine forR (fun i σ' H' => Same H1 H' ∧ ∃ ys k6 k7, σ' = [some v0, some (.ref b), some (.int x), some (.ref he), some (.ref pl), some (.ref nl), k6, k7, none] ∧ H' pl = some (.lst ys) ∧ ys.length ≤ i ∧ (∀ S : List Addr, (∀ b ∈ S, H b ≠ none) → DpAll K (hid (pl :: nl :: S) H') ys ((crPairs ps x (ws.take i)).map dPair)) ∧ H' nl = some (.lst ((crNums ps x ws i).map V.int)) ∧ (crNums ps x ws i).length ≤ i)
    ⟨s2.trans s3, [], _, _, rfl, s3 _ _ epl, Nat.le_refl _, fun _ _ => .nil, enl, Nat.le_refl _⟩ ?_ ?_
  · rintro i σ' H4 hi ⟨s4, ys, k6, k7, rfl, hp4, ly, dy, hn4, ln⟩
    have hi' : i < xs.length := by omega
    obtain ⟨v, hx⟩ : ∃ v, xs[i]? = some v := ⟨xs[i], List.getElem?_eq_getElem hi'⟩
    obtain ⟨d, hd1, hd2⟩ := dpa_get hxs hx
    rw [List.getElem?_map] at hd1
    obtain ⟨w, hw1, rfl⟩ := Option.map_eq_some_iff.mp hd1
    have wok := hok w (List.mem_of_getElem? hw1)
    have tp := crPairs_succ (ps := ps) (p := x) hw1
    have tn := crNums_succ (ps := ps) (p := x) hw1
    wtm_at "s"
    refine k_ixL (by wtm_at "sq") (by rw [Int.zero_add]; exact atI_nat hx) ?_
    wtm_at "s"
    refine ⟨_, _, rfl, .tree ps, w.1, w.2, by wtm_at "dp", by wtm_at "dp", ok, wok, fun tl ts H5 ntl s5 etl tt => ?_⟩
    have ets : ts = treeTies ps w := ss_ext tt.srt (treeTies_srt ps w) fun t => (tt.mem t).trans treeTies_mem.symm
    subst ets
    have lts : (treeTies ps w).length < 120 := tt.far
    refine lc_pure (sl etl) (treeTies ps w) (by simp) (by omega) (fun t => if decide (t ∈ hereOf ps x) = true then some (V.int ((hereOf ps x).idxOf t : Nat)) else none) ?_ (fun D H6 nD s6 eD => ?_)
    · intro j z t H' hz ht sm R R0 h1 h2
      rw [List.getElem?_map, ht] at hz
      cases hz
      wtm_at "s"
      refine k_it (fun c => ?_) (fun c => ?_)
      · wtm_at "s"
        refine k_tyL (by wtm_at "sq") ?_
        wtm_at "s"
        refine k_indexI (by wtm_at "sq") c ?_
        exact h1 _ (by rw [if_pos (decide_eq_true c)])
      · exact h2 (by rw [if_neg (by simpa using c)])
    · rw [some_fm] at eD
      have srt := some_srt (here_srt ps x) (treeTies_srt ps w)
      have eD' : H6 D = some (.lst ((wayAt ps x w).map V.int)) := eD
      have srt' : (wayAt ps x w).Pairwise (· < ·) := srt
      have hp6 := (s5.trans s6) _ _ hp4
      have hn6 := (s5.trans s6) _ _ hn4
      have dy6 : ∀ S : List Addr, (∀ b ∈ S, H b ≠ none) → DpAll K (hid (pl :: nl :: S) H6) ys ((crPairs ps x (ws.take i)).map dPair) := fun S hS => dpa_same (hid_mono (s5.trans s6)) (dy S hS)
      have s16 : Same H1 H6 := s4.trans (s5.trans s6)
      clear eD srt
      wtm_at "s"
      generalize wayAt ps x w = so at eD' srt' tp tn ⊢
      refine k_it (fun c => ?_) (fun c => ?_)
      · have sne : so ≠ [] := fun e => by rw [e] at c; simp at c
        rw [if_neg sne] at tp tn
        wtm_at "s"
        refine k_tyL (sl hp6) ?_
        wtm_at "s"
        refine k_min (sl eD') (by omega) (fun m m1 m2 => ?_)
        wtm_at "s"
        refine k_max (sl eD') (by omega) (fun m' m1' m2' => ?_)
        have em : m = (ends so).1 := ends_min srt' m1 m2
        have em' : m' = (ends so).2 := ends_max srt' m1' m2'
        subst em em'
        wtm_at "s"
        refine kT (by simp) (fun t1 H7 nt1 s7 e7 => ?_)
        have hp7 := s7 _ _ hp6
        have hn7 := s7 _ _ hn6
        have t1p : t1 ≠ pl := fun e => by rw [e, hp6] at nt1; cases nt1
        have t1n : t1 ≠ nl := fun e => by rw [e, hn6] at nt1; cases nt1
        wtm_at "s"
        refine k_append hp7 (by omega) ?_
        wtm_at "s"
        have hn8 : upd H7 pl (.lst (ys ++ [.ref t1])) nl = some (.lst ((crNums ps x ws i).map V.int)) := by rw [upd_ne (fun e => pn e.symm)]; exact hn7
        refine k_tyL (sl hn8) ?_
        wtm_at "s"
        refine k_append hn8 (by simp; omega) ?_
        refine ⟨same_mut (same_mut (s16.trans s7) npl) ((s2.free nnl)), ys ++ [.ref t1], _, _, rfl, ?_, by simp; omega, ?_, ?_, by rw [tn]; simp; omega⟩
        · rw [upd_ne pn, upd_same]
        · intro S hS
          rw [hid_upd (by simp), hid_upd (by simp), tp, List.map_append]
          refine dpa_app (dpa_same (hid_mono s7) (dy6 S hS)) (.cons (dp_of_pair (stp ?_)) .nil)
          rw [hid_ne fun z => ?_]
          · exact e7
          · rcases List.mem_cons.mp z with z | z
            · exact t1p z
            · rcases List.mem_cons.mp z with z | z
              · exact t1n z
              · exact hS t1 z ((s1.trans s16).free nt1)
        · rw [upd_same, tn, List.map_append, Int.zero_add]; rfl
      · have se : so = [] := by
          cases so with
          | nil => rfl
          | cons z r => exact absurd (by simp : (0 : Int) < ((z :: r).length : Int)) c
        rw [if_pos se, List.append_nil] at tp tn
        wtm_at "s"
        refine ⟨s16, ys, _, _, rfl, hp6, by omega, fun S hS => by rw [tp]; exact dy6 S hS, by rw [tn]; exact hn6, by rw [tn]; omega⟩
  · rintro σ' H4 ⟨s4, ys, k6, k7, rfl, hp4, ly, dy, hn4, ln⟩
    rw [Int.toNat_natCast] at dy hn4
    rw [List.take_length] at dy
    wtm_at "s"
    refine kT (by simp) (fun cq H5 ncq s5 ecq => ?_)
    wtm_at "s"
    refine kT (by simp) (fun cp H6 ncp s6 ecp => ?_)
    have s16 : Same H1 H4 := s4
    exact q cp H6 ⟨by wtm_at "sm", cq, pl, nl, ys, ((s1.trans s4).trans s5).free ncp, (s1.trans s4).free ncq, npl0, nnl0, pn, ecp, s6 _ _ ecq, (s5.trans s6) _ _ hp4, fun S hS => dpa_same (hid_mono (s5.trans s6)) (dy S hS), (s5.trans s6) _ _ hn4⟩
abbrev sp_crossing_of (K : PySem.W.Frag) : Sp := fun vs H Q E => ∃ v0 v1 v2, vs = [v0, v1, v2] ∧ pr_crossing_of K v0 v1 v2 H Q E
theorem ok_crossing_of (T : Txt K mg A) : FnOk P w K mg base CX0 2 A.a_crossing_of A.d_crossing_of ["net", "ways", "place"] (sp_crossing_of K) := by
  refine T.F_crossing_of.ok sc_crossing_of (fun vs H Q E h => by obtain ⟨v0, v1, v2, rfl, _⟩ := h; rfl) (fun cdv A0 outer s H vs Q E hr h => ?_)
  obtain ⟨v0, v1, v2, rfl, h⟩ := h
  exact ⟨t_crossing_of K, (pss_cons (ps_set (i := 3) sc_crossing_of.nd rfl (Or.inr rfl) (pe_call (ok_ties_at T) (hr.mono (by decide)) (by rfl) T.g_ties_at T.F_ties_at.kp T.b_ties_at .nil pass0 (pa_cons (pv 0) (pa_cons (pv 2) pa_nil))))
      (pss_cons (ps_set (i := 4) sc_crossing_of.nd rfl (Or.inl rfl) (pe_lst pa_nil))
      (pss_cons (ps_set (i := 5) sc_crossing_of.nd rfl (Or.inl rfl) (pe_lst pa_nil))
      (pss_cons (ps_for PassesOwn.never rfl (pi_range1 (by rfl) T.z_range (pa_cons (pe_callB q_len (by rfl) T.z_len (by decide +kernel) (pa_cons (pv 1) pa_nil)) pa_nil)) (pg_name (i := 6) sc_crossing_of.nd rfl (Or.inl rfl))
      (pss_cons (ps_setLc (i := 7) (own := [("tie", 8)]) (by rfl) sc_crossing_of.nd rfl rfl (sw_true rfl rfl rfl (by decide +kernel)) (pi_list (pe_call (ok_ties_on T) (hr.mono (by decide)) (by rfl) T.g_ties_on T.F_ties_on.kp T.b_ties_on .nil pass0 (pa_cons (pv 0) (pa_cons (pe_ix ix_list (pv 1) (pv 6) (fun _ _ => rfl)) pa_nil)))) (blkOk_by (own := [("tie", 8)]) (N := ["net", "ways", "place", "here", "pairs", "numbers", "k", "some", "tie"]) (sc := defScope s_crossing_of) (by decide +kernel)) (fun _ _ _ _ _ => (pg_name (i := 8) sc_crossing_of.nd rfl (Or.inl rfl))) (fun _ _ _ _ _ => (pts_one (pt_cmpR op_in_seq (pv 8) (pv 3) (by rfl)))) (fun _ _ _ _ _ => (pe_bm PySem.F.plainAttrs_list PySem.F.slot_list_index PySem.F.type_list_index mt_index (pv 3) (pa_cons (pv 8) pa_nil))))
      (pss_one (ps_if (pt_cmpR op_gt (pe_callB q_len (by rfl) T.z_len (by decide +kernel) (pa_cons (pv 7) pa_nil)) pe_int (nomark _)) (pss_cons (ps_expr (pe_bm PySem.F.plainAttrs_list PySem.F.slot_list_append PySem.F.type_list_append mt_append (pv 4) (pa_cons (pe_tup (pa_cons (pe_callB (cr_min (by rfl)) (by rfl) T.z_min (by decide +kernel) (pa_cons (pv 7) pa_nil)) (pa_cons (pe_callB (cr_max (by rfl)) (by rfl) T.z_max (by decide +kernel) (pa_cons (pv 7) pa_nil)) pa_nil))) pa_nil)))
      (pss_one (ps_expr (pe_bm PySem.F.plainAttrs_list PySem.F.slot_list_append PySem.F.type_list_append mt_append (pv 5) (pa_cons (pv 6) pa_nil))))) pss_nil))))
      (pss_one (ps_ret (pe_tup (pa_cons (pe_tup (pa_cons (pe_callB q_len (by rfl) T.z_len (by decide +kernel) (pa_cons (pv 3) pa_nil)) (pa_cons (pv 4) pa_nil))) (pa_cons (pv 5) pa_nil))))))))), pure_crossing_of h⟩
def pr_crossing_at (K : PySem.W.Frag) (v0 v1 v2 : V) (H : Hp) (Q : VK) (_ : XK) : Prop := ∃ (ps : List Int) (ws : List (Int × Int)) (x : Int), v2 = .int x ∧ Dp K H v0 (Net.tree ps).d ∧ TreeOk ps ∧ Dp K H v1 (dPairs ws) ∧ ws.length ≤ 1000 ∧ (∀ w ∈ ws, isWay (.tree ps) w.1 w.2) ∧ 0 ≤ x ∧ x ≤ ps.length ∧
  ∀ p H', CrNew K H H' p (hereOf ps x).length (crPairs ps x ws) (crNums ps x ws ws.length) → Q (.ref p) H'
def t_crossing_at (K : PySem.W.Frag) : TS :=
  (tSeq (tDrop (tCall (sp_must_be_kind K) [] E0 (tCons (tVar 0) (tCons (tC (.str (Str.ofString "tree"))) tNil))))
    (tSeq (tDrop (tCall (sp_must_be_ways K) [] E0 (tCons (tVar 0) (tCons (tVar 1) tNil))))
    (tSeq (tIfS (tOr (tTest (tOp xLt (tVar 2) (tC (.int 0)))) (tTest (tOp xGe (tVar 2) (tCall (sp_places_of K) [] E0 (tCons (tVar 0) tNil))))) tNever tNext)
    (tRet (tCall (sp_crossing_of K) [] E0 (tCons (tVar 0) (tCons (tVar 1) (tCons (tVar 2) tNil))))))))
theorem pure_crossing_at {v0 v1 v2 : V} {H : Hp} {Q : VK} {E : XK} (h : pr_crossing_at K v0 v1 v2 H Q E) : t_crossing_at K ⟨fun _ H' => Q .non H', Q, fun _ _ => False, fun _ _ => False⟩ [some v0, some v1, some v2] H := by
  obtain ⟨ps, ws, x, rfl, hd, ok, hw, hz, hok, x0, x1, q⟩ := h
  unfold t_crossing_at
  wtm_at "s"
  refine ⟨_, _, rfl, .tree ps, hd, ok, rfl, ?_⟩
  wtm_at "s"
  refine ⟨_, _, rfl, .tree ps, ws, hd, hw, by omega, hok, ?_⟩
  wtm_at "s"
  refine ⟨_, rfl, .tree ps, hd, ?_⟩
  have hp : (Net.tree ps).places = ps.length + 1 := rfl
  rw [hp]
  wtm_at "s"
  exact ⟨_, _, _, rfl, ps, ws, x, rfl, hd, ok, hw, hz, hok, q⟩
abbrev sp_crossing_at (K : PySem.W.Frag) : Sp := fun vs H Q E => ∃ v0 v1 v2, vs = [v0, v1, v2] ∧ pr_crossing_at K v0 v1 v2 H Q E
theorem ok_crossing_at (T : Txt K mg A) : FnOk P w K mg base CX0 4 A.a_crossing_at A.d_crossing_at ["net", "ways", "place"] (sp_crossing_at K) := by
  refine T.F_crossing_at.ok sc_crossing_at (fun vs H Q E h => by obtain ⟨v0, v1, v2, rfl, _⟩ := h; rfl) (fun cdv A0 outer s H vs Q E hr h => ?_)
  obtain ⟨v0, v1, v2, rfl, h⟩ := h
  exact ⟨t_crossing_at K, (pss_cons (ps_expr (pe_call (ok_must_be_kind T) (hr.mono (by decide)) (by rfl) T.g_must_be_kind T.F_must_be_kind.kp T.b_must_be_kind .nil pass0 (pa_cons (pv 0) (pa_cons pe_str pa_nil))))
      (pss_cons (ps_expr (pe_call (ok_must_be_ways T) (hr.mono (by decide)) (by rfl) T.g_must_be_ways T.F_must_be_ways.kp T.b_must_be_ways .nil pass0 (pa_cons (pv 0) (pa_cons (pv 1) pa_nil))))
      (pss_cons (ps_if (PW.pt (pw_or (pt_cmpR op_lt (pv 2) pe_int (nomark _)) (pw_or1 (pt_cmpR op_ge (pv 2) (pe_call (ok_places_of T) (hr.mono (by decide)) (by rfl) T.g_places_of T.F_places_of.kp T.b_places_of .nil pass0 (pa_cons (pv 0) pa_nil)) (nomark _))))) (pss_one ps_never) pss_nil)
      (pss_one (ps_ret (pe_call (ok_crossing_of T) (hr.mono (by decide)) (by rfl) T.g_crossing_of T.F_crossing_of.kp T.b_crossing_of .nil pass0 (pa_cons (pv 0) (pa_cons (pv 1) (pa_cons (pv 2) pa_nil))))))))), pure_crossing_at h⟩


def pr_law_purse (K : PySem.W.Frag) (v0 : V) (H : Hp) (Q : VK) (_ : XK) : Prop := ∃ (a : Addr) (ns : List Int), v0 = .ref a ∧ SqL K H a (ns.map V.int) ∧ ns.length ≤ 63 ∧ ∀ pu ce n H', Same H H' → H pu = none → H ce = none → Pu H' pu ce n 0 → Q (.ref pu) H'
def t_law_purse (K : PySem.W.Frag) : TS :=
  (tSeq (tAsg (tSl (rSlL K) (tVar 0) tNoPart (tPart (tC (.int 63)))) (gName 1))
    (tSeq (tIfS (tTest (tOp (rEqD K) (tVar 1) (tLst tNil))) (tAsg (tLst (tCons (tC (.int 0)) tNil)) (gName 1)) tNext)
    (tRet (tLst (tCons (tVar 1) (tCons (tC (.int 0)) tNil))))))
theorem cut63 {ns : List Int} (h : ns.length ≤ 63) : cutV (ns.map V.int) none (some 63) = ns.map V.int := by
  unfold cutV
  rw [HT.sIx_none, show HT.sIx (ns.map V.int).length (ns.map V.int).length (some 63) = min 63 (ns.map V.int).length from HT.sIx_nat _ _ 63]
  rw [List.drop_zero, List.length_map]
  exact List.take_of_length_le (by rw [List.length_map]; omega)
theorem pure_law_purse {v0 : V} {H : Hp} {Q : VK} {E : XK} (h : pr_law_purse K v0 H Q E) : t_law_purse K ⟨fun _ H' => Q .non H', Q, fun _ _ => False, fun _ _ => False⟩ [some v0, none] H := by
  obtain ⟨a, ns, rfl, ha, hz, q⟩ := h
  unfold t_law_purse
  wtm_at "s"
  refine k_slL ha (fun ce H1 nce sm1 hce => ?_)
  rw [cut63 hz] at hce
  wtm_at "s"
  refine ⟨sz (by simp), fun em nem => ?_⟩
  have hce2 : upd H1 em (.lst []) ce = some (.lst (ns.map V.int)) := same_new nem _ _ hce
  have sm2 : Same H (upd H1 em (.lst [])) := sm1.trans (same_new nem)
  refine k_eqD (c := dInts ns) (d := dInts []) (n := 1) (dp_of_ints (sl hce2)) (dp_of_ints (ns := []) (sl upd_same)) (sh_ints ns) (sh_ints []) (by decide) ?_
  cases ns with
  | nil =>
    refine k_bl ?_
    refine k_itT rfl ?_
    wtm_at "s"
    refine ⟨sz (by simp), fun c2 nc2 => ?_⟩
    wtm_at "s"
    refine ⟨sz (by simp), fun pu npu => ?_⟩
    have hc2 : upd (upd H1 em (.lst [])) c2 (.lst [.int 0]) c2 = some (.lst ([(0 : Int)].map V.int)) := upd_same
    exact q pu c2 1 _ (sm2.trans ((same_new nc2).trans (same_new npu))) ((sm2.trans (same_new nc2)).free npu) (sm2.free nc2) ⟨upd_same, ⟨[0], rfl, same_new npu _ _ hc2⟩, by decide, by decide, by decide⟩
  | cons x r =>
    refine k_bl ?_
    refine k_itF rfl ?_
    wtm_at "s"
    refine ⟨sz (by simp), fun pu npu => ?_⟩
    exact q pu ce (x :: r).length _ (sm2.trans (same_new npu)) (sm2.free npu) nce ⟨upd_same, ⟨_, rfl, same_new npu _ _ hce2⟩, by simp, hz, by decide⟩
abbrev sp_law_purse (K : PySem.W.Frag) : Sp := fun vs H Q E => ∃ v0, vs = [v0] ∧ pr_law_purse K v0 H Q E
theorem ok_law_purse (T : Txt K mg A) : FnOk P w K mg base CX0 1 A.a_law_purse A.d_law_purse ["_law_script"] (sp_law_purse K) := by
  refine T.F_law_purse.ok sc_law_purse (fun vs H Q E h => by obtain ⟨v0, rfl, _⟩ := h; rfl) (fun cdv A0 outer s H vs Q E hr h => ?_)
  obtain ⟨v0, rfl, h⟩ := h
  exact ⟨t_law_purse K, (pss_cons (ps_set (i := 1) sc_law_purse.nd rfl (Or.inl rfl) (pe_slice sl_list (pv 0) po_none (po_some pe_int)))
      (pss_cons (ps_if (pt_cmpR (op_eqD hr.units) (pv 1) (pe_lst pa_nil) (nomark _)) (pss_one (ps_set (i := 1) sc_law_purse.nd rfl (Or.inl rfl) (pe_lst (pa_cons pe_int pa_nil)))) pss_nil)
      (pss_one (ps_ret (pe_lst (pa_cons (pv 1) (pa_cons pe_int pa_nil))))))), pure_law_purse h⟩
def pr_law_draw (K : PySem.W.Frag) (v0 v1 : V) (H : Hp) (Q : VK) (_ : XK) : Prop := ∃ pu ce n t m, v0 = .ref pu ∧ v1 = .int m ∧ Pu H pu ce n t ∧ t < 1000000 ∧ 0 < m ∧ m < 2 ^ 200 ∧ ∀ r H', 0 ≤ r → r < m → Pu H' pu ce n (t + 1) → Same (hid [pu, ce] H) (hid [pu, ce] H') → Q (.int r) H'
def t_law_draw (K : PySem.W.Frag) : TS :=
  (tSeq (tAsg (tVar 0) (gUnl K 2 (gCons (gName 2) (gCons (gName 3) gNil))))
    (tSeq (tAsg (tOp xMod (tVar 3) (tCB (rLen K) (tCons (tVar 2) tNil))) (gName 4))
    (tSeq (tAsg (tOp (rIxL K) (tVar 2) (tVar 4)) (gName 5))
    (tSeq (tAsg (tOp xAdd (tVar 3) (tC (.int 1))) (gSub (tVar 0) (tC (.int 1)) rSetL))
    (tSeq (tIfS (tTest (tOp xGe (tVar 5) (tOp xPow (tC (.int 10)) (tC (.int 18))))) (tSeq (tAsg (tOp xDivW (tVar 5) (tVar 1)) (gSub (tVar 2) (tVar 4) rSetL))
    (tRet (tOp xMod (tVar 5) (tVar 1)))) tNext)
    (tSeq (tAsg (tOp xMod (tOp xAdd (tOp xAdd (tOp xMul (tOp xMod (tVar 5) (tC (.int 2147483647))) (tC (.int 48271))) (tOp xMul (tOp xMul (tVar 3) (tVar 3)) (tC (.int 69621)))) (tC (.int 7))) (tC (.int 2147483647))) (gName 6))
    (tSeq (tAsg (tOp xMod (tOp xMul (tVar 6) (tVar 6)) (tC (.int 2147483629))) (gName 6))
    (tRet (tOp xMod (tOp xMod (tOp xMul (tVar 6) (tVar 6)) (tC (.int 2147483587))) (tVar 1))))))))))
theorem pure_law_draw {v0 v1 : V} {H : Hp} {Q : VK} {E : XK} (h : pr_law_draw K v0 v1 H Q E) : t_law_draw K ⟨fun _ H' => Q .non H', Q, fun _ _ => False, fun _ _ => False⟩ [some v0, some v1, none, none, none, none, none] H := by
  obtain ⟨pu, ce, n, t, m, rfl, rfl, hP, ht, hm0, hm1, q⟩ := h
  obtain ⟨cs, hl, hc⟩ := hP.hc
  have hp := hP.hp
  have n0 := hP.n0
  have t0 := hP.t0
  have ne := hP.ne
  unfold t_law_draw
  wtm_at "s"
  refine k_gunl (sl hp) rfl ?_
  wtm_at "s"
  have a0 : 0 ≤ t % (cs.length : Int) := Int.emod_nonneg _ (by omega)
  have a1 : t % (cs.length : Int) < cs.length := Int.emod_lt_of_pos _ (by omega)
  refine k_ixI (sl hc) a0 a1 ?_
  wtm_at "s"
  refine k_setL hp (j := 1) rfl ?_
  have hc1 : upd H pu (.lst [.ref ce, .int (t + 1)]) ce = some (.lst (cs.map V.int)) := by rw [upd_ne ne.symm]; exact hc
  have P1 : Pu (upd H pu (.lst [.ref ce, .int (t + 1)])) pu ce n (t + 1) := ⟨upd_same, ⟨cs, hl, hc1⟩, n0, hP.n1, by omega⟩
  have S1 : Same (hid [pu, ce] H) (hid [pu, ce] (upd H pu (.lst [.ref ce, .int (t + 1)]))) := same_hid_upd (Same.refl _) (by simp)
  wtm_at "s"
  refine k_it (fun c1 => ?_) (fun c1 => ?_)
  · wtm_at "s"
    refine k_divW (wide_div hm0 (b := 201) (by omega) (by decide) (by decide)) ?_
    wtm_at "s"
    refine k_setL hc1 (ixN_of a0 (by rw [List.length_map]; exact a1)) ?_
    wtm_at "s"
    refine q _ _ (Int.emod_nonneg _ (by omega)) (Int.emod_lt_of_pos _ hm0) ⟨by rw [upd_ne ne]; exact upd_same, ⟨_, ?_, by rw [upd_same, map_set_int]⟩, n0, hP.n1, by omega⟩ (same_hid_upd S1 (by simp))
    rw [List.length_set]; exact hl
  · wtm_at "s"
    exact q _ _ (Int.emod_nonneg _ (by omega)) (Int.emod_lt_of_pos _ hm0) P1 S1
abbrev sp_law_draw (K : PySem.W.Frag) : Sp := fun vs H Q E => ∃ v0 v1, vs = [v0, v1] ∧ pr_law_draw K v0 v1 H Q E
theorem ok_law_draw (T : Txt K mg A) : FnOk P w K mg base CX0 1 A.a_law_draw A.d_law_draw ["_law_purse_here", "_law_out_of"] (sp_law_draw K) := by
  refine T.F_law_draw.ok sc_law_draw (fun vs H Q E h => by obtain ⟨v0, v1, rfl, _⟩ := h; rfl) (fun cdv A0 outer s H vs Q E hr h => ?_)
  obtain ⟨v0, v1, rfl, h⟩ := h
  exact ⟨t_law_draw K, (pss_cons (ps_asg (pv 0) (pg_unl (by rfl) (pgs_cons (pg_name (i := 2) sc_law_draw.nd rfl (Or.inl rfl)) (pgs_cons (pg_name (i := 3) sc_law_draw.nd rfl (Or.inl rfl)) pgs_nil))))
      (pss_cons (ps_set (i := 4) sc_law_draw.nd rfl (Or.inl rfl) (pe_op op_mod (pv 3) (pe_callB q_len (by rfl) T.z_len (by decide +kernel) (pa_cons (pv 2) pa_nil))))
      (pss_cons (ps_set (i := 5) sc_law_draw.nd rfl (Or.inl rfl) (pe_ix ix_list (pv 2) (pv 4) (fun _ _ => rfl)))
      (pss_cons (ps_asg (pe_op op_add (pv 3) pe_int) (pg_sub (pv 0) pe_int set_list))
      (pss_cons (ps_if (pt_cmpR op_ge (pv 5) (pe_op op_pow pe_int pe_int) (nomark _)) (pss_cons (ps_asg (pe_op op_fdivW (pv 5) (pv 1)) (pg_sub (pv 2) (pv 4) set_list))
      (pss_one (ps_ret (pe_op op_mod (pv 5) (pv 1))))) pss_nil)
      (pss_cons (ps_set (i := 6) sc_law_draw.nd rfl (Or.inl rfl) (pe_op op_mod (pe_op op_add (pe_op op_add (pe_op op_mul (pe_op op_mod (pv 5) pe_int) pe_int) (pe_op op_mul (pe_op op_mul (pv 3) (pv 3)) pe_int)) pe_int) pe_int))
      (pss_cons (ps_set (i := 6) sc_law_draw.nd rfl (Or.inl rfl) (pe_op op_mod (pe_op op_mul (pv 6) (pv 6)) pe_int))
      (pss_one (ps_ret (pe_op op_mod (pe_op op_mod (pe_op op_mul (pv 6) (pv 6)) pe_int) (pv 1))))))))))), pure_law_draw h⟩


def pr_law_up (K : PySem.W.Frag) (v0 v1 : V) (H : Hp) (Q : VK) (_ : XK) : Prop := ∃ (ps : List Int) (x : Int), Dp K H v0 (dInts ps) ∧ TreeOk ps ∧ v1 = .int x ∧ 0 ≤ x ∧ x ≤ ps.length ∧ ∀ p (us : List Int) H', H p = none → Same H H' → H' p = some (.lst (us.map V.int)) → (∀ t : Nat, (t : Int) ∈ us ↔ below ps (t + 1) x.toNat = true) → Q (.ref p) H'
def t_law_up (K : PySem.W.Frag) : TS :=
  (tSeq (tAsg (tLst tNil) (gName 2))
    (tSeq (tWhile (tTest (tOp xGt (tVar 1) (tC (.int 0))))
      (tSeq (tDrop (tBM K "list" rAppend (tVar 2) (tCons (tOp xSub (tVar 1) (tC (.int 1))) tNil)))
    (tAsg (tOp (rIxL K) (tVar 0) (tOp xSub (tVar 1) (tC (.int 1)))) (gName 1))))
    (tRet (tVar 2))))
theorem pure_law_up {v0 v1 : V} {H : Hp} {Q : VK} {E : XK} (h : pr_law_up K v0 v1 H Q E) : t_law_up K ⟨fun _ H' => Q .non H', Q, fun _ _ => False, fun _ _ => False⟩ [some v0, some v1, none] H := by
  obtain ⟨ps, x, hd, ok, rfl, x0, x1, q⟩ := h
  obtain ⟨b, rfl, hb⟩ := dp_ints hd
  have l60 := ok.2.1
  unfold t_law_up
  wtm_at "s"
  refine kL (by simp) (fun fo H1 nfo s1 e1 => ?_)
  wtm_at "s"
  refine ⟨fun m σ' H' => ∃ (y : Int) (us : List Int), σ' = [some (.ref b), some (.int y), some (.ref fo)] ∧ Same H H' ∧ H' fo = some (.lst (us.map V.int)) ∧ (m : Int) = y ∧ (us.length : Int) + y ≤ x ∧ ∀ t : Nat, (below ps (t + 1) x.toNat = true ↔ (t : Int) ∈ us ∨ below ps (t + 1) y.toNat = true),
    ⟨x.toNat, x, [], rfl, s1, e1, by omega, by simp, fun t => by simp⟩, ?_⟩
  rintro m σ' H2 ⟨y, us, rfl, s2, e2, hm, hl, hc⟩
  wtm_at "s"
  refine k_it (fun c1 => ?_) (fun c1 => ?_)
  · have hpx := ok.2.2 (y - 1).toNat (by omega)
    refine ⟨fun σ' H' => ∃ m', m' < m ∧ ∃ (y : Int) (us : List Int), σ' = [some (.ref b), some (.int y), some (.ref fo)] ∧ Same H H' ∧ H' fo = some (.lst (us.map V.int)) ∧ (m' : Int) = y ∧ (us.length : Int) + y ≤ x ∧ ∀ t : Nat, (below ps (t + 1) x.toNat = true ↔ (t : Int) ∈ us ∨ below ps (t + 1) y.toNat = true), fun σ' H' h => h, ?_⟩
    wtm_at "s"
    refine k_tyL (sl e2) ?_
    wtm_at "s"
    refine k_append e2 (by simp; omega) ?_
    have s3 : Same H (upd H2 fo (.lst (us.map V.int ++ [.int (y - 1)]))) := same_mut s2 nfo
    have e3 : upd H2 fo (.lst (us.map V.int ++ [.int (y - 1)])) fo = some (.lst ((us ++ [y - 1]).map V.int)) := by rw [upd_same, List.map_append]; rfl
    generalize upd H2 fo (.lst (us.map V.int ++ [.int (y - 1)])) = H3 at s3 e3 ⊢
    wtm_at "s"
    refine k_ixI (s3.seq hb) (by omega) (by omega) ?_
    wtm_at "s"
    generalize hx' : ps.getD (y - 1).toNat 0 = y' at hpx ⊢
    refine ⟨y'.toNat, by omega, y', us ++ [y - 1], rfl, s3, e3, by omega, by simp; omega, fun t => ?_⟩
    rw [hc t]
    have ex : y.toNat = (y - 1).toNat + 1 := by omega
    by_cases ck : t + 1 = y.toNat
    · constructor
      · intro _; exact .inl (List.mem_append_right _ (by simp; omega))
      · intro _; refine .inr ?_; rw [← ck]; exact below_self _
    · rw [ex, below_step ok (by omega) (by omega), hx']
      constructor
      · rintro (h | h)
        · exact .inl (List.mem_append_left _ h)
        · exact .inr h
      · rintro (h | h)
        · rcases List.mem_append.mp h with h | h
          · exact .inl h
          · have : (t : Int) = y - 1 := by simpa using h
            omega
        · exact .inr h
  · have y0 : y = 0 := by omega
    subst y0
    wtm_at "s"
    refine q fo us H2 nfo s2 e2 fun t => ?_
    rw [hc t]
    constructor
    · exact .inl
    · rintro (h | h)
      · exact h
      · rw [show (0 : Int).toNat = 0 from rfl, below_lt 0 (by omega)] at h; cases h
abbrev sp_law_up (K : PySem.W.Frag) : Sp := fun vs H Q E => ∃ v0 v1, vs = [v0, v1] ∧ pr_law_up K v0 v1 H Q E
theorem ok_law_up (T : Txt K mg A) : FnOk P w K mg base CX0 1 A.a_law_up A.d_law_up ["_law_parents", "_law_place"] (sp_law_up K) := by
  refine T.F_law_up.ok sc_law_up (fun vs H Q E h => by obtain ⟨v0, v1, rfl, _⟩ := h; rfl) (fun cdv A0 outer s H vs Q E hr h => ?_)
  obtain ⟨v0, v1, rfl, h⟩ := h
  exact ⟨t_law_up K, (pss_cons (ps_set (i := 2) sc_law_up.nd rfl (Or.inl rfl) (pe_lst pa_nil))
      (pss_cons (ps_while PassesOwn.never (pt_cmpR op_gt (pv 1) pe_int (nomark _))
      (pss_cons (ps_expr (pe_bm PySem.F.plainAttrs_list PySem.F.slot_list_append PySem.F.type_list_append mt_append (pv 2) (pa_cons (pe_op op_sub (pv 1) pe_int) pa_nil)))
      (pss_one (ps_set (i := 1) sc_law_up.nd rfl (Or.inl rfl) (pe_ix ix_list (pv 0) (pe_op op_sub (pv 1) pe_int) (fun _ _ => rfl))))))
      (pss_one (ps_ret (pv 2))))), pure_law_up h⟩
def pr_law_ties (K : PySem.W.Frag) (v0 v1 : V) (H : Hp) (Q : VK) (_ : XK) : Prop := ∃ (ps : List Int) (w : Int × Int), Dp K H v0 (dInts ps) ∧ TreeOk ps ∧ Dp K H v1 (dPair w) ∧ isWay (.tree ps) w.1 w.2 ∧ ∀ p H', H p = none → Same H H' → H' p = some (.lst ((treeTies ps w).map V.int)) → Q (.ref p) H'
def t_law_ties (K : PySem.W.Frag) : TS :=
  (tSeq (tAsg (tCall (sp_law_up K) [] E0 (tCons (tVar 0) (tCons (tOp (rIxT K) (tVar 1) (tC (.int 0))) tNil))) (gName 2))
    (tSeq (tAsg (tCall (sp_law_up K) [] E0 (tCons (tVar 0) (tCons (tOp (rIxT K) (tVar 1) (tC (.int 1))) tNil))) (gName 3))
    (tRet (tLc (iRng1 (tCons (tCB (rLen K) (tCons (tVar 0) tNil)) tNil)) (gName 4) (tTest (tOp rNe (tOp (rIn K false) (tVar 4) (tVar 2)) (tOp (rIn K false) (tVar 4) (tVar 3)))) (tVar 4) [4]))))
theorem tt_fm (ps : List Int) (w : Int × Int) : (List.range ps.length).filterMap (fun t => if decide (below ps (t + 1) w.1.toNat ≠ below ps (t + 1) w.2.toNat) = true then some (V.int (0 + (t : Nat))) else none) = (treeTies ps w).map V.int := by
  unfold treeTies
  rw [List.map_map]
  induction (List.range ps.length) with
  | nil => rfl
  | cons x r ih =>
    by_cases c : decide (below ps (x + 1) w.1.toNat ≠ below ps (x + 1) w.2.toNat) = true
    · rw [List.filterMap_cons, if_pos c, List.filter_cons, if_pos c]
      simp only [List.map_cons]
      rw [ih]
      simp
    · rw [List.filterMap_cons, if_neg c, List.filter_cons, if_neg c]
      exact ih
theorem pure_law_ties {v0 v1 : V} {H : Hp} {Q : VK} {E : XK} (h : pr_law_ties K v0 v1 H Q E) : t_law_ties K ⟨fun _ H' => Q .non H', Q, fun _ _ => False, fun _ _ => False⟩ [some v0, some v1, none, none, none] H := by
  obtain ⟨ps, w, hd, ok, hw, ⟨w1, w2, w3, w4, w5⟩, q⟩ := h
  obtain ⟨b, rfl, hb⟩ := dp_ints hd
  obtain ⟨p, rfl, hp⟩ := dp_pair hw
  have w4' : w.1 < (ps.length : Int) + 1 := w4
  have w5' : w.2 < (ps.length : Int) + 1 := w5
  have l60 := ok.2.1
  unfold t_law_ties
  wtm_at "s"
  refine ⟨_, _, rfl, ps, w.1, hd, ok, rfl, w2, by omega, fun o1 us1 H1 no1 s1 e1 m1 => ?_⟩
  wtm_at "s"
  refine ⟨_, _, rfl, ps, w.2, by wtm_at "dp", ok, rfl, w3, by omega, fun o2 us2 H2 no2 s2 e2 m2 => ?_⟩
  wtm_at "s"
  rw [Int.toNat_natCast]
  refine lc_pureR (by omega) (fun t => if decide (below ps (t + 1) w.1.toNat ≠ below ps (t + 1) w.2.toNat) = true then some (V.int (0 + (t : Nat))) else none) ?_ (fun D H' nD sm hD => ?_)
  · intro t H' ht sm R R0 h1 h2
    wtm_at "s"
    rw [Int.zero_add] at h1 ⊢
    have a1 : decide ((t : Int) ∈ us1) = below ps (t + 1) w.1.toNat := by
      have := m1 t
      cases hh : below ps (t + 1) w.1.toNat with
      | true => rw [decide_eq_true (this.mpr hh)]
      | false => exact decide_eq_false fun z => by rw [this.mp z] at hh; cases hh
    have a2 : decide ((t : Int) ∈ us2) = below ps (t + 1) w.2.toNat := by
      have := m2 t
      cases hh : below ps (t + 1) w.2.toNat with
      | true => rw [decide_eq_true (this.mpr hh)]
      | false => exact decide_eq_false fun z => by rw [this.mp z] at hh; cases hh
    rw [a1, a2]
    refine k_itn (fun c => ?_) (fun c => ?_)
    · wtm_at "s"
      exact h1 _ (by rw [if_pos (decide_eq_true c)])
    · exact h2 (by rw [if_neg]; simpa using c)
  · rw [tt_fm] at hD
    exact q D H' ((s1.trans s2).free nD) (by wtm_at "sm") hD
abbrev sp_law_ties (K : PySem.W.Frag) : Sp := fun vs H Q E => ∃ v0 v1, vs = [v0, v1] ∧ pr_law_ties K v0 v1 H Q E
theorem ok_law_ties (T : Txt K mg A) : FnOk P w K mg base CX0 2 A.a_law_ties A.d_law_ties ["_law_parents", "_law_way"] (sp_law_ties K) := by
  refine T.F_law_ties.ok sc_law_ties (fun vs H Q E h => by obtain ⟨v0, v1, rfl, _⟩ := h; rfl) (fun cdv A0 outer s H vs Q E hr h => ?_)
  obtain ⟨v0, v1, rfl, h⟩ := h
  exact ⟨t_law_ties K, (pss_cons (ps_set (i := 2) sc_law_ties.nd rfl (Or.inr rfl) (pe_call (ok_law_up T) (hr.mono (by decide)) (by rfl) T.g_law_up T.F_law_up.kp T.b_law_up .nil pass0 (pa_cons (pv 0) (pa_cons (pe_ix ix_tup (pv 1) pe_int (fun _ _ => rfl)) pa_nil))))
      (pss_cons (ps_set (i := 3) sc_law_ties.nd rfl (Or.inr rfl) (pe_call (ok_law_up T) (hr.mono (by decide)) (by rfl) T.g_law_up T.F_law_up.kp T.b_law_up .nil pass0 (pa_cons (pv 0) (pa_cons (pe_ix ix_tup (pv 1) pe_int (fun _ _ => rfl)) pa_nil))))
      (pss_one (ps_ret (pe_lc (own := [("_law_tie", 4)]) (by rfl) sc_law_ties.nd (pi_range1 (by rfl) T.z_range (pa_cons (pe_callB q_len (by rfl) T.z_len (by decide +kernel) (pa_cons (pv 0) pa_nil)) pa_nil)) (blkOk_by (own := [("_law_tie", 4)]) (N := ["_law_parents", "_law_way", "_law_one", "_law_other", "_law_tie"]) (sc := defScope s_law_ties) (by decide +kernel)) (fun _ _ _ _ _ => (pg_name (i := 4) sc_law_ties.nd rfl (Or.inl rfl))) (fun _ _ _ _ _ => (pts_one (pt_cmpR op_ne (pe_cmpR op_in_seq (pv 4) (pv 2) (by rfl)) (pe_cmpR op_in_seq (pv 4) (pv 3) (by rfl)) (nomark _)))) (fun _ _ _ _ _ => (pv 4))))))), pure_law_ties h⟩


def pr_law_due (K : PySem.W.Frag) (v0 v1 v2 : V) (H : Hp) (Q : VK) (_ : XK) : Prop := ∃ (ps : List Int) (ws : List (Int × Int)) (x : Int), v2 = .int x ∧ Dp K H v0 (dInts ps) ∧ TreeOk ps ∧ Dp K H v1 (.list (ws.map fun w => dInts (treeTies ps w))) ∧ ws.length ≤ 1000 ∧
  ∀ p H', CrNew K H H' p (hereOf ps x).length (crPairs ps x ws) (crNums ps x ws ws.length) → Q (.ref p) H'
def t_law_due (K : PySem.W.Frag) : TS :=
  (tSeq (tAsg (tLc (iRng1 (tCons (tCB (rLen K) (tCons (tVar 0) tNil)) tNil)) (gName 8) (tTest (tOp (rIn K false) (tVar 2) (tTup (tCons (tOp xAdd (tVar 8) (tC (.int 1))) (tCons (tOp (rIxL K) (tVar 0) (tVar 8)) tNil))))) (tVar 8) [8]) (gName 3))
    (tSeq (tAsg (tLst tNil) (gName 4))
    (tSeq (tAsg (tLst tNil) (gName 5))
    (tSeq (tFor (iRng1 (tCons (tCB (rLen K) (tCons (tVar 1) tNil)) tNil)) (gName 6)
      (tSeq (tAsg (tLc (iList K (tOp (rIxL K) (tVar 1) (tVar 6))) (gName 8) (tTest (tOp (rIn K false) (tVar 8) (tVar 3))) (tBM K "list" (rIndex K) (tVar 3) (tCons (tVar 8) tNil)) [8]) (gName 7))
    (tIfS (tTest (tOp xGt (tCB (rLen K) (tCons (tVar 7) tNil)) (tC (.int 0)))) (tSeq (tDrop (tBM K "list" rAppend (tVar 4) (tCons (tTup (tCons (tOp (rIxL K) (tVar 7) (tC (.int 0))) (tCons (tOp (rIxL K) (tVar 7) (tUn xNeg (tC (.int 1)))) tNil))) tNil)))
    (tDrop (tBM K "list" rAppend (tVar 5) (tCons (tVar 6) tNil)))) tNext)))
    (tRet (tTup (tCons (tTup (tCons (tCB (rLen K) (tCons (tVar 3) tNil)) (tCons (tVar 4) tNil))) (tCons (tVar 5) tNil))))))))
theorem pure_law_due {v0 v1 v2 : V} {H : Hp} {Q : VK} {E : XK} (h : pr_law_due K v0 v1 v2 H Q E) : t_law_due K ⟨fun _ H' => Q .non H', Q, fun _ _ => False, fun _ _ => False⟩ [some v0, some v1, some v2, none, none, none, none, none, none] H := by
  obtain ⟨ps, ws, x, rfl, hd, ok, hw, hz, q⟩ := h
  obtain ⟨b, xs, rfl, hb, hxs⟩ := dp_list hw
  obtain ⟨c0, rfl, hc0⟩ := dp_ints hd
  have hl := dpa_len hxs
  rw [List.length_map] at hl
  have hpl := ok.2.1
  unfold t_law_due
  wtm_at "s"
  rw [Int.toNat_natCast]
  refine lc_growR (by omega) (fun i => if hereB ps x i = true then some (V.int (0 + (i : Nat))) else none) ?_ (fun he H1 nhe s1 ehe => ?_)
  · intro i H' hi sm R R0 h1 h2
    wtm_at "s"
    have e0 : (0 + (i : Int)).toNat = i := by omega
    refine k_ixI (by wtm_at "sq") (by omega) (by omega) ?_
    rw [e0]
    wtm_at "s"
    refine kT (by simp) (fun tp H'' ntp s'' e'' => ?_)
    refine k_inT2 (stp e'') ?_
    wtm_at "s"
    refine k_it (fun c => ?_) (fun c => ?_)
    · wtm_at "s"
      refine h1 _ _ ?_ s''
      rw [if_pos]
      unfold hereB
      rw [Bool.or_eq_true, decide_eq_true_eq, decide_eq_true_eq]
      omega
    · refine h2 _ ?_ s''
      rw [if_neg]
      unfold hereB
      rw [Bool.or_eq_true, decide_eq_true_eq, decide_eq_true_eq]
      omega
  rw [here_fm] at ehe
  wtm_at "s"
  refine kL (by simp) (fun pl H2 npl s2 epl => ?_)
  wtm_at "s"
  refine kL (by simp) (fun nl H3 nnl s3 enl => ?_)
  have npl0 : H pl = none := s1.free npl
  have nnl0 : H nl = none := (s1.trans s2).free nnl
  have pn : pl ≠ nl := fun e => by rw [← e, epl] at nnl; cases nnl
  have lh := here_len ps x
  wtm_at "s"
  rw [hl]
  refine forR (fun i σ' H' => Same H1 H' ∧ ∃ ys k6 k7, σ' = [some (.ref c0), some (.ref b), some (.int x), some (.ref he), some (.ref pl), some (.ref nl), k6, k7, none] ∧ H' pl = some (.lst ys) ∧ ys.length ≤ i ∧ (∀ S : List Addr, (∀ b ∈ S, H b ≠ none) → DpAll K (hid (pl :: nl :: S) H') ys ((crPairs ps x (ws.take i)).map dPair)) ∧ H' nl = some (.lst ((crNums ps x ws i).map V.int)) ∧ (crNums ps x ws i).length ≤ i)
    ⟨s2.trans s3, [], _, _, rfl, s3 _ _ epl, Nat.le_refl _, fun _ _ => .nil, enl, Nat.le_refl _⟩ ?_ ?_
  · rintro i σ' H4 hi ⟨s4, ys, k6, k7, rfl, hp4, ly, dy, hn4, ln⟩
    have hi' : i < xs.length := by omega
    obtain ⟨v, hx⟩ : ∃ v, xs[i]? = some v := ⟨xs[i], List.getElem?_eq_getElem hi'⟩
    obtain ⟨d, hd1, hd2⟩ := dpa_get hxs hx
    rw [List.getElem?_map] at hd1
    obtain ⟨w, hw1, rfl⟩ := Option.map_eq_some_iff.mp hd1
    have tp := crPairs_succ (ps := ps) (p := x) hw1
    have tn := crNums_succ (ps := ps) (p := x) hw1
    wtm_at "s"
    refine k_ixL (by wtm_at "sq") (by rw [Int.zero_add]; exact atI_nat hx) ?_
    obtain ⟨tl, rfl, etl⟩ := dp_ints (show Dp K H v (dInts (treeTies ps w)) from hd2)
    have lts : (treeTies ps w).length ≤ ps.length := by
      unfold treeTies
      rw [List.length_map]
      exact Nat.le_trans (List.length_filter_le _ _) (by simp)
    have s5 : Same H4 H4 := Same.refl _
    have etl4 : SqL K H4 tl ((treeTies ps w).map V.int) := (s1.trans s4).seq etl
    refine lc_pure etl4 (treeTies ps w) (by simp) (by omega) (fun t => if decide (t ∈ hereOf ps x) = true then some (V.int ((hereOf ps x).idxOf t : Nat)) else none) ?_ (fun D H6 nD s6 eD => ?_)
    · intro j z t H' hz ht sm R R0 h1 h2
      rw [List.getElem?_map, ht] at hz
      cases hz
      wtm_at "s"
      refine k_it (fun c => ?_) (fun c => ?_)
      · wtm_at "s"
        refine k_tyL (by wtm_at "sq") ?_
        wtm_at "s"
        refine k_indexI (by wtm_at "sq") c ?_
        exact h1 _ (by rw [if_pos (decide_eq_true c)])
      · exact h2 (by rw [if_neg (by simpa using c)])
    · rw [some_fm] at eD
      have srt := some_srt (here_srt ps x) (treeTies_srt ps w)
      have eD' : H6 D = some (.lst ((wayAt ps x w).map V.int)) := eD
      have srt' : (wayAt ps x w).Pairwise (· < ·) := srt
      have hp6 := (s5.trans s6) _ _ hp4
      have hn6 := (s5.trans s6) _ _ hn4
      have dy6 : ∀ S : List Addr, (∀ b ∈ S, H b ≠ none) → DpAll K (hid (pl :: nl :: S) H6) ys ((crPairs ps x (ws.take i)).map dPair) := fun S hS => dpa_same (hid_mono (s5.trans s6)) (dy S hS)
      have s16 : Same H1 H6 := s4.trans (s5.trans s6)
      clear eD srt
      wtm_at "s"
      generalize wayAt ps x w = so at eD' srt' tp tn ⊢
      refine k_it (fun c => ?_) (fun c => ?_)
      · have sne : so ≠ [] := fun e => by rw [e] at c; simp at c
        rw [if_neg sne] at tp tn
        wtm_at "s"
        refine k_tyL (sl hp6) ?_
        wtm_at "s"
        refine k_ixI (sl eD') (by decide) (by omega) ?_
        obtain ⟨l, z, rfl⟩ : ∃ l z, so = l ++ [z] := ⟨so.dropLast, so.getLast sne, (List.dropLast_concat_getLast sne).symm⟩
        wtm_at "s"
        refine k_ixL (v := .int z) (sl eD') (by rw [List.map_append]; exact atI_last _ _) ?_
        have e1 : (l ++ [z]).getD (0 : Int).toNat 0 = (ends (l ++ [z])).1 := by
          cases l <;> rfl
        rw [e1]
        have ee : ends (l ++ [z]) = ((ends (l ++ [z])).1, z) := Prod.ext rfl (by simp [ends])
        generalize (ends (l ++ [z])).1 = z1 at ee ⊢
        rw [ee] at tp
        wtm_at "s"
        refine kT (by simp) (fun t1 H7 nt1 s7 e7 => ?_)
        have hp7 := s7 _ _ hp6
        have hn7 := s7 _ _ hn6
        have t1p : t1 ≠ pl := fun e => by rw [e, hp6] at nt1; cases nt1
        have t1n : t1 ≠ nl := fun e => by rw [e, hn6] at nt1; cases nt1
        wtm_at "s"
        refine k_append hp7 (by omega) ?_
        wtm_at "s"
        have hn8 : upd H7 pl (.lst (ys ++ [.ref t1])) nl = some (.lst ((crNums ps x ws i).map V.int)) := by rw [upd_ne (fun e => pn e.symm)]; exact hn7
        refine k_tyL (sl hn8) ?_
        wtm_at "s"
        refine k_append hn8 (by simp; omega) ?_
        refine ⟨same_mut (same_mut (s16.trans s7) npl) ((s2.free nnl)), ys ++ [.ref t1], _, _, rfl, ?_, by simp; omega, ?_, ?_, by rw [tn]; simp; omega⟩
        · rw [upd_ne pn, upd_same]
        · intro S hS
          rw [hid_upd (by simp), hid_upd (by simp), tp, List.map_append]
          refine dpa_app (dpa_same (hid_mono s7) (dy6 S hS)) (.cons (dp_of_pair (stp ?_)) .nil)
          rw [hid_ne fun z => ?_]
          · exact e7
          · rcases List.mem_cons.mp z with z | z
            · exact t1p z
            · rcases List.mem_cons.mp z with z | z
              · exact t1n z
              · exact hS t1 z ((s1.trans s16).free nt1)
        · rw [upd_same, tn, List.map_append, Int.zero_add]; rfl
      · have se : so = [] := by
          cases so with
          | nil => rfl
          | cons z r => exact absurd (by simp : (0 : Int) < ((z :: r).length : Int)) c
        rw [if_pos se, List.append_nil] at tp tn
        wtm_at "s"
        refine ⟨s16, ys, _, _, rfl, hp6, by omega, fun S hS => by rw [tp]; exact dy6 S hS, by rw [tn]; exact hn6, by rw [tn]; omega⟩
  · rintro σ' H4 ⟨s4, ys, k6, k7, rfl, hp4, ly, dy, hn4, ln⟩
    rw [Int.toNat_natCast] at dy hn4
    rw [List.take_length] at dy
    wtm_at "s"
    refine kT (by simp) (fun cq H5 ncq s5 ecq => ?_)
    wtm_at "s"
    refine kT (by simp) (fun cp H6 ncp s6 ecp => ?_)
    have s16 : Same H1 H4 := s4
    exact q cp H6 ⟨by wtm_at "sm", cq, pl, nl, ys, ((s1.trans s4).trans s5).free ncp, (s1.trans s4).free ncq, npl0, nnl0, pn, ecp, s6 _ _ ecq, (s5.trans s6) _ _ hp4, fun S hS => dpa_same (hid_mono (s5.trans s6)) (dy S hS), (s5.trans s6) _ _ hn4⟩
abbrev sp_law_due (K : PySem.W.Frag) : Sp := fun vs H Q E => ∃ v0 v1 v2, vs = [v0, v1, v2] ∧ pr_law_due K v0 v1 v2 H Q E
theorem ok_law_due (T : Txt K mg A) : FnOk P w K mg base CX0 1 A.a_law_due A.d_law_due ["_law_parents", "_law_lain", "_law_place"] (sp_law_due K) := by
  refine T.F_law_due.ok sc_law_due (fun vs H Q E h => by obtain ⟨v0, v1, v2, rfl, _⟩ := h; rfl) (fun cdv A0 outer s H vs Q E hr h => ?_)
  obtain ⟨v0, v1, v2, rfl, h⟩ := h
  exact ⟨t_law_due K, (pss_cons (ps_set (i := 3) sc_law_due.nd rfl (Or.inr rfl) (pe_lc (own := [("_law_tie", 8)]) (by rfl) sc_law_due.nd (pi_range1 (by rfl) T.z_range (pa_cons (pe_callB q_len (by rfl) T.z_len (by decide +kernel) (pa_cons (pv 0) pa_nil)) pa_nil)) (blkOk_by (own := [("_law_tie", 8)]) (N := ["_law_parents", "_law_lain", "_law_place", "_law_here", "_law_pairs", "_law_numbers", "_law_k", "_law_some", "_law_tie"]) (sc := defScope s_law_due) (by decide +kernel)) (fun _ _ _ _ _ => (pg_name (i := 8) sc_law_due.nd rfl (Or.inl rfl))) (fun _ _ _ _ _ => (pts_one (pt_cmpR op_in_seq (pv 2) (pe_tup (pa_cons (pe_op op_add (pv 8) pe_int) (pa_cons (pe_ix ix_list (pv 0) (pv 8) (fun _ _ => rfl)) pa_nil))) (by rfl)))) (fun _ _ _ _ _ => (pv 8))))
      (pss_cons (ps_set (i := 4) sc_law_due.nd rfl (Or.inl rfl) (pe_lst pa_nil))
      (pss_cons (ps_set (i := 5) sc_law_due.nd rfl (Or.inl rfl) (pe_lst pa_nil))
      (pss_cons (ps_for PassesOwn.never rfl (pi_range1 (by rfl) T.z_range (pa_cons (pe_callB q_len (by rfl) T.z_len (by decide +kernel) (pa_cons (pv 1) pa_nil)) pa_nil)) (pg_name (i := 6) sc_law_due.nd rfl (Or.inl rfl))
      (pss_cons (ps_setLc (i := 7) (own := [("_law_tie", 8)]) (by rfl) sc_law_due.nd rfl rfl (sw_true rfl rfl rfl (by decide +kernel)) (pi_list (pe_ix ix_list (pv 1) (pv 6) (fun _ _ => rfl))) (blkOk_by (own := [("_law_tie", 8)]) (N := ["_law_parents", "_law_lain", "_law_place", "_law_here", "_law_pairs", "_law_numbers", "_law_k", "_law_some", "_law_tie"]) (sc := defScope s_law_due) (by decide +kernel)) (fun _ _ _ _ _ => (pg_name (i := 8) sc_law_due.nd rfl (Or.inl rfl))) (fun _ _ _ _ _ => (pts_one (pt_cmpR op_in_seq (pv 8) (pv 3) (by rfl)))) (fun _ _ _ _ _ => (pe_bm PySem.F.plainAttrs_list PySem.F.slot_list_index PySem.F.type_list_index mt_index (pv 3) (pa_cons (pv 8) pa_nil))))
      (pss_one (ps_if (pt_cmpR op_gt (pe_callB q_len (by rfl) T.z_len (by decide +kernel) (pa_cons (pv 7) pa_nil)) pe_int (nomark _)) (pss_cons (ps_expr (pe_bm PySem.F.plainAttrs_list PySem.F.slot_list_append PySem.F.type_list_append mt_append (pv 4) (pa_cons (pe_tup (pa_cons (pe_ix ix_list (pv 7) pe_int (fun _ _ => rfl)) (pa_cons (pe_ix ix_list (pv 7) (pe_un un_neg pe_int) (fun _ _ => rfl)) pa_nil))) pa_nil)))
      (pss_one (ps_expr (pe_bm PySem.F.plainAttrs_list PySem.F.slot_list_append PySem.F.type_list_append mt_append (pv 5) (pa_cons (pv 6) pa_nil))))) pss_nil))))
      (pss_one (ps_ret (pe_tup (pa_cons (pe_tup (pa_cons (pe_callB q_len (by rfl) T.z_len (by decide +kernel) (pa_cons (pv 3) pa_nil)) (pa_cons (pv 4) pa_nil))) (pa_cons (pv 5) pa_nil))))))))), pure_law_due h⟩


/-- draw(purse, [..][draw(purse, n)]) -/
theorem pd_pick {σ : L2.St} {i : Nat} {pu ce : Addr} {n : Nat} {kk : Int} {cs : List Int} {ta : TA} {hi : Int} {H : Hp} {Q : VK} (hv : σ[i]? = some (some (.ref pu))) (L : Pu H pu ce n kk) (hk : kk < 900000)
    (hta : ∀ (H : Hp) (R : List V → Hp → Prop), R (cs.map V.int) H → ta σ H R) (hc : cs.length ≤ 100) (c0 : 0 < cs.length) (hb : ∀ c ∈ cs, 1 ≤ c ∧ c ≤ hi) (hh : hi < 2 ^ 100)
    (q : ∀ d H', 0 ≤ d → d < hi → Pu H' pu ce n (kk + 2) → Same (hid [pu, ce] H) (hid [pu, ce] H') → Q (.int d) H') :
    tCall (sp_law_draw K) [] E0 (tCons (tVar i) (tCons (tOp (rIxL K) (tLst ta) (tCall (sp_law_draw K) [] E0 (tCons (tVar i) (tCons (tC (.int cs.length)) tNil)))) tNil)) σ H Q := by
  refine k_call (k_cons (k_var hv (k_cons (k_op (k_lst (hta _ _ ⟨sz (by rw [List.length_map]; omega), fun dl ndl => ?_⟩))))))
  refine k_call (k_cons (k_var hv (k_cons (k_c (k_nil ?_)))))
  have ndl' := L.fresh ndl
  refine ⟨_, _, rfl, pu, ce, n, kk, cs.length, rfl, rfl, L.upd ndl', by omega, by omega, by omega, fun r H2 r0 r1 L2 S2 => ?_⟩
  refine k_ixI (sl (keeps S2 upd_same ndl')) r0 r1 ?_
  have hm := hb _ (getD_memI r0 r1)
  refine k_nil ?_
  refine ⟨_, _, rfl, pu, ce, n, kk + 1, _, rfl, rfl, L2, by omega, by omega, by omega, fun d H3 d0 d1 L3 S3 => ?_⟩
  refine q d H3 d0 (by omega) ?_ ((same_hid_new ndl).trans (S2.trans S3))
  rw [show kk + 2 = kk + 1 + 1 by omega]; exact L3
theorem tree_more {us : List Int} {i : Nat} {r : Int} (h : ∀ j : Nat, j < us.length → 0 ≤ us.getD j 0 ∧ us.getD j 0 ≤ j) (hl : us.length = i) (r0 : 0 ≤ r) (r1 : r < i + 1) : ∀ j : Nat, j < (us ++ [r]).length → 0 ≤ (us ++ [r]).getD j 0 ∧ (us ++ [r]).getD j 0 ≤ j := by
  intro j hj
  by_cases c : j < us.length
  · have e : (us ++ [r]).getD j 0 = us.getD j 0 := by rw [List.getD_eq_getElem?_getD, List.getD_eq_getElem?_getD, List.getElem?_append_left c]
    rw [e]; exact h j c
  · have hj' : j = us.length := by simp at hj; omega
    subst hj'
    have e : (us ++ [r]).getD us.length 0 = r := by rw [List.getD_eq_getElem?_getD, List.getElem?_append_right (Nat.le_refl _)]; simp
    rw [e]; omega
def pr_law_tree (K : PySem.W.Frag) (v0 : V) (H : Hp) (Q : VK) (_ : XK) : Prop := ∃ (pu ce : Addr) (n : Nat) (t : Int), v0 = .ref pu ∧ Pu H pu ce n t ∧ t < 800000 ∧
  ∀ p (ps : List Int) t' H', H p = none → p ∉ [pu, ce] → Pu H' pu ce n t' → t' ≤ t + 100 → Same (hid [pu, ce] H) (hid [pu, ce] H') → hid [pu, ce] H' p = some (.lst (ps.map V.int)) → TreeOk ps → Q (.ref p) H'
def t_law_tree (K : PySem.W.Frag) : TS :=
  (tSeq (tAsg (tOp xAdd (tC (.int 1)) (tCall (sp_law_draw K) [] E0 (tCons (tVar 0) (tCons (tOp (rIxL K) (tLst (tCons (tC (.int 4)) (tCons (tC (.int 9)) (tCons (tC (.int 20)) (tCons (tC (.int 59)) tNil))))) (tCall (sp_law_draw K) [] E0 (tCons (tVar 0) (tCons (tC (.int 4)) tNil)))) tNil)))) (gName 1))
    (tSeq (tAsg (tCall (sp_law_draw K) [] E0 (tCons (tVar 0) (tCons (tC (.int 4)) tNil))) (gName 2))
    (tSeq (tAsg (tLst tNil) (gName 3))
    (tSeq (tFor (iRng1 (tCons (tVar 1) tNil)) (gName 4)
      (tSeq (tAsg (tCall (sp_law_draw K) [] E0 (tCons (tVar 0) (tCons (tOp xAdd (tVar 4) (tC (.int 1))) tNil))) (gName 5))
    (tDrop (tBM K "list" rAppend (tVar 3) (tCons (tOp (rIxL K) (tLst (tCons (tVar 5) (tCons (tVar 4) (tCons (tOp xMod (tVar 5) (tC (.int 2))) (tCons (tCB rMax2 (tCons (tC (.int 0)) (tCons (tOp xSub (tVar 4) (tOp xMod (tVar 5) (tC (.int 3)))) tNil))) tNil))))) (tVar 2)) tNil)))))
    (tRet (tVar 3))))))
theorem pure_law_tree {v0 : V} {H : Hp} {Q : VK} {E : XK} (h : pr_law_tree K v0 H Q E) : t_law_tree K ⟨fun _ H' => Q .non H', Q, fun _ _ => False, fun _ _ => False⟩ [some v0, none, none, none, none, none] H := by
  obtain ⟨pu, ce, n, t, rfl, L, ht, q⟩ := h
  unfold t_law_tree
  refine k_seq (k_asg (k_op (k_c ?_)))
  refine pd_pick (cs := [4, 9, 20, 59]) (hi := 59) rfl L (by omega) (fun H R h => by wtm_at "s"; exact h) (by decide) (by decide) (by decide) (by decide) (fun d H1 d0 d1 L1 S1 => ?_)
  wtm_at "s"
  refine ⟨_, _, rfl, pu, ce, n, _, 4, rfl, rfl, L1, by omega, by decide, by decide, fun wy H2 y0 y1 L2 S2 => ?_⟩
  wtm_at "s"
  refine kL (by simp) (fun D H3 nD s3 e3 => ?_)
  have nD' := L2.fresh nD
  have S02 := S1.trans S2
  have nD0 : H D = none := fresh_hid S02 nD nD'
  have fr : hid [pu, ce] H D = none := by rw [hid_ne nD']; exact nD0
  have S03 : Same (hid [pu, ce] H) (hid [pu, ce] H3) := S02.trans (hid_mono s3)
  have L3 := L2.same s3
  wtm_at "s"
  refine forR (fun i σ' H' => ∃ (us : List Int) (t' : Int) (k4 k5 : Option V), σ' = [some (.ref pu), some (.int (1 + d)), some (.int wy), some (.ref D), k4, k5] ∧ Pu H' pu ce n t' ∧ t' ≤ t + 3 + i ∧ Same (hid [pu, ce] H) (hid [pu, ce] H') ∧ H' D = some (.lst (us.map V.int)) ∧ us.length = i ∧ ∀ j : Nat, j < us.length → 0 ≤ us.getD j 0 ∧ us.getD j 0 ≤ j)
    ⟨[], _, _, _, rfl, L3, by omega, S03, e3, rfl, fun j hj => absurd hj (by simp)⟩ ?_ ?_
  · rintro i σ' H4 hi ⟨us, t', k4, k5, rfl, L4, ht4, S4, hD, hl, hok⟩
    wtm_at "s"
    refine ⟨_, _, rfl, pu, ce, n, t', _, rfl, rfl, L4, by omega, by omega, by omega, fun one H5 o0 o1 L5 S5 => ?_⟩
    have hD5 := keeps S5 hD nD'
    wtm_at "s"
    refine k_tyL (sl hD5) ?_
    wtm_at "s"
    have m20 : 0 ≤ one % 2 := Int.emod_nonneg _ (by decide)
    have m30 : 0 ≤ one % 3 := Int.emod_nonneg _ (by decide)
    have m21 : one % 2 ≤ one := by omega
    generalize one % 2 = x2 at m20 m21 ⊢
    generalize one % 3 = x3 at m30 ⊢
    refine kL (by simp) (fun l H6 nl s6 e6 => ?_)
    have hD6 := s6 _ _ hD5
    have L6 := L5.same s6
    generalize hx4 : (if 0 + (i : Int) - x3 > 0 then 0 + (i : Int) - x3 else 0) = x4 at e6
    have b4 : 0 ≤ x4 ∧ x4 ≤ i := by rw [← hx4]; split <;> omega
    have e6' : H6 l = some (.lst (List.map V.int [one, 0 + (i : Int), x2, x4])) := e6
    wtm_at "s"
    refine k_ixI (sl e6') y0 (by simpa using y1) ?_
    have hm := getD_memI (ns := [one, 0 + (i : Int), x2, x4]) (i := wy) y0 (by simpa using y1)
    generalize [one, 0 + (i : Int), x2, x4].getD wy.toNat 0 = z at hm ⊢
    have hz : 0 ≤ z ∧ z < i + 1 := by
      simp only [List.mem_cons, List.not_mem_nil, or_false] at hm
      omega
    wtm_at "s"
    refine k_append hD6 (by simp; omega) ?_
    refine ⟨us ++ [z], _, _, _, rfl, L6.upd nD', by omega, same_hid_mut (S4.trans (S5.trans (hid_mono s6))) fr, by rw [upd_same, List.map_append]; rfl, by simp [hl], tree_more hok hl hz.1 hz.2⟩
  · rintro σ' H4 ⟨us, t', k4, k5, rfl, L4, ht4, S4, hD, hl, hok⟩
    wtm_at "s"
    exact q D us t' H4 nD0 nD' L4 (by omega) S4 (by rw [hid_ne nD']; exact hD) ⟨by omega, by omega, hok⟩
abbrev sp_law_tree (K : PySem.W.Frag) : Sp := fun vs H Q E => ∃ v0, vs = [v0] ∧ pr_law_tree K v0 H Q E
theorem ok_law_tree (T : Txt K mg A) : FnOk P w K mg base CX0 2 A.a_law_tree A.d_law_tree ["_law_purse_here"] (sp_law_tree K) := by
  refine T.F_law_tree.ok sc_law_tree (fun vs H Q E h => by obtain ⟨v0, rfl, _⟩ := h; rfl) (fun cdv A0 outer s H vs Q E hr h => ?_)
  obtain ⟨v0, rfl, h⟩ := h
  exact ⟨t_law_tree K, (pss_cons (ps_set (i := 1) sc_law_tree.nd rfl (Or.inl rfl) (pe_op op_add pe_int (pe_call (ok_law_draw T) (hr.mono (by decide)) (by rfl) T.g_law_draw T.F_law_draw.kp T.b_law_draw .nil pass0 (pa_cons (pv 0) (pa_cons (pe_ix ix_list (pe_lst (pa_cons pe_int (pa_cons pe_int (pa_cons pe_int (pa_cons pe_int pa_nil))))) (pe_call (ok_law_draw T) (hr.mono (by decide)) (by rfl) T.g_law_draw T.F_law_draw.kp T.b_law_draw .nil pass0 (pa_cons (pv 0) (pa_cons pe_int pa_nil))) (fun _ _ => rfl)) pa_nil)))))
      (pss_cons (ps_set (i := 2) sc_law_tree.nd rfl (Or.inl rfl) (pe_call (ok_law_draw T) (hr.mono (by decide)) (by rfl) T.g_law_draw T.F_law_draw.kp T.b_law_draw .nil pass0 (pa_cons (pv 0) (pa_cons pe_int pa_nil))))
      (pss_cons (ps_set (i := 3) sc_law_tree.nd rfl (Or.inl rfl) (pe_lst pa_nil))
      (pss_cons (ps_for PassesOwn.never rfl (pi_range1 (by rfl) T.z_range (pa_cons (pv 1) pa_nil)) (pg_name (i := 4) sc_law_tree.nd rfl (Or.inl rfl))
      (pss_cons (ps_set (i := 5) sc_law_tree.nd rfl (Or.inl rfl) (pe_call (ok_law_draw T) (hr.mono (by decide)) (by rfl) T.g_law_draw T.F_law_draw.kp T.b_law_draw .nil pass0 (pa_cons (pv 0) (pa_cons (pe_op op_add (pv 4) pe_int) pa_nil))))
      (pss_one (ps_expr (pe_bm PySem.F.plainAttrs_list PySem.F.slot_list_append PySem.F.type_list_append mt_append (pv 3) (pa_cons (pe_ix ix_list (pe_lst (pa_cons (pv 5) (pa_cons (pv 4) (pa_cons (pe_op op_mod (pv 5) pe_int) (pa_cons (pe_callB (q_max2 (by rfl)) (by rfl) T.z_max (by decide +kernel) (pa_cons pe_int (pa_cons (pe_op op_sub (pv 4) (pe_op op_mod (pv 5) pe_int)) pa_nil))) pa_nil))))) (pv 2) (fun _ _ => rfl)) pa_nil))))))
      (pss_one (ps_ret (pv 3))))))), pure_law_tree h⟩
def pr_law_ways (K : PySem.W.Frag) (v0 v1 v2 : V) (H : Hp) (Q : VK) (_ : XK) : Prop := ∃ (pu ce : Addr) (n : Nat) (t m c : Int), v0 = .ref pu ∧ v1 = .int m ∧ v2 = .int c ∧ Pu H pu ce n t ∧ t < 800000 ∧ 2 ≤ m ∧ m ≤ 1000 ∧ 0 ≤ c ∧ c ≤ 1000 ∧
  ∀ D ys (ws : List (Int × Int)) t' H', H D = none → D ∉ [pu, ce] → Pu H' pu ce n t' → t' ≤ t + 2 * c + 1 → Same (hid [pu, ce] H) (hid [pu, ce] H') → H' D = some (.lst ys) → DpAll K (hid [pu, ce, D] H') ys (ws.map dPair) → (ws.length : Int) ≤ c → (∀ w ∈ ws, w.1 ≠ w.2 ∧ 0 ≤ w.1 ∧ 0 ≤ w.2 ∧ w.1 < m ∧ w.2 < m) → Q (.ref D) H'
def t_law_ways (K : PySem.W.Frag) : TS :=
  (tSeq (tAsg (tLst tNil) (gName 3))
    (tSeq (tFor (iRng1 (tCons (tCall (sp_law_draw K) [] E0 (tCons (tVar 0) (tCons (tOp xAdd (tVar 2) (tC (.int 1))) tNil))) tNil)) (gName 4)
      (tSeq (tAsg (tCall (sp_law_draw K) [] E0 (tCons (tVar 0) (tCons (tVar 1) tNil))) (gName 5))
    (tDrop (tBM K "list" rAppend (tVar 3) (tCons (tTup (tCons (tVar 5) (tCons (tOp xMod (tOp xAdd (tOp xAdd (tVar 5) (tC (.int 1))) (tCall (sp_law_draw K) [] E0 (tCons (tVar 0) (tCons (tOp xSub (tVar 1) (tC (.int 1))) tNil)))) (tVar 1)) tNil))) tNil)))))
    (tRet (tVar 3))))
theorem not_in3 {p a b c : Addr} (h1 : p ∉ [a, b]) (h2 : p ≠ c) : p ∉ [a, b, c] := fun z => by
  rcases List.mem_cons.mp z with z | z
  · exact h1 (by rw [z]; simp)
  · rcases List.mem_cons.mp z with z | z
    · exact h1 (by rw [z]; simp)
    · exact h2 (by simpa using z)
theorem turn_on {m x y : Int} (hm : 2 ≤ m) (x0 : 0 ≤ x) (x1 : x < m) (y0 : 0 ≤ y) (y1 : y < m - 1) : x ≠ (x + 1 + y) % m ∧ 0 ≤ (x + 1 + y) % m ∧ (x + 1 + y) % m < m := by
  refine ⟨?_, Int.emod_nonneg _ (by omega), Int.emod_lt_of_pos _ (by omega)⟩
  by_cases c : x + 1 + y < m
  · rw [Int.emod_eq_of_lt (by omega) c]; omega
  · rw [← Int.sub_emod_right, Int.emod_eq_of_lt (by omega) (by omega)]; omega
theorem pure_law_ways {v0 v1 v2 : V} {H : Hp} {Q : VK} {E : XK} (h : pr_law_ways K v0 v1 v2 H Q E) : t_law_ways K ⟨fun _ H' => Q .non H', Q, fun _ _ => False, fun _ _ => False⟩ [some v0, some v1, some v2, none, none, none] H := by
  obtain ⟨pu, ce, n, t, m, c, rfl, rfl, rfl, L, ht, m0, m1, c0, c1, q⟩ := h
  unfold t_law_ways
  wtm_at "s"
  refine kL (by simp) (fun D H1 nD s1 e1 => ?_)
  have nD' := L.fresh nD
  have fr : hid [pu, ce] H D = none := by rw [hid_ne nD']; exact nD
  wtm_at "s"
  refine ⟨_, _, rfl, pu, ce, n, t, _, rfl, rfl, L.same s1, by omega, by omega, by omega, fun d H2 d0 d1 L2 S2 => ?_⟩
  have e2 := keeps S2 e1 nD'
  have S02 : Same (hid [pu, ce] H) (hid [pu, ce] H2) := (hid_mono s1).trans S2
  wtm_at "s"
  refine forR (fun i σ' H' => ∃ ys ws t' k4 k5, σ' = [some (.ref pu), some (.int m), some (.int c), some (.ref D), k4, k5] ∧ Pu H' pu ce n t' ∧ t' ≤ t + 1 + 2 * i ∧ Same (hid [pu, ce] H) (hid [pu, ce] H') ∧ H' D = some (.lst ys) ∧ DpAll K (hid [pu, ce, D] H') ys (List.map dPair ws) ∧ ws.length = i ∧ ∀ w ∈ ws, w.1 ≠ w.2 ∧ 0 ≤ w.1 ∧ 0 ≤ w.2 ∧ w.1 < m ∧ w.2 < m)
    ⟨[], [], _, _, _, rfl, L2, by omega, S02, e2, .nil, rfl, fun _ z => by cases z⟩ ?_ ?_
  · rintro i σ' H3 hi ⟨ys, ws, t', k4, k5, rfl, L3, ht3, S3, hD, hys, hl, hok⟩
    have ly := dpa_len hys
    rw [List.length_map] at ly
    wtm_at "s"
    refine ⟨_, _, rfl, pu, ce, n, t', m, rfl, rfl, L3, by omega, by omega, by omega, fun x H4 x0 x1 L4 S4 => ?_⟩
    have hD4 := keeps S4 hD nD'
    wtm_at "s"
    refine k_tyL (sl hD4) ?_
    wtm_at "s"
    refine ⟨_, _, rfl, pu, ce, n, _, m - 1, rfl, rfl, L4, by omega, by omega, by omega, fun y H5 y0 y1 L5 S5 => ?_⟩
    have hD5 := keeps S5 hD4 nD'
    obtain ⟨g1, g2, g3⟩ := turn_on m0 x0 x1 y0 y1
    wtm_at "s"
    generalize (x + 1 + y) % m = z at g1 g2 g3 ⊢
    refine kT (by simp) (fun p H6 np s6 e6 => ?_)
    have hD6 := s6 _ _ hD5
    have pd : p ≠ D := fun e => by rw [e, hD5] at np; cases np
    have np' := L5.fresh np
    have S36 : Same (hid [pu, ce] H3) (hid [pu, ce] H6) := S4.trans (S5.trans (hid_mono s6))
    wtm_at "s"
    refine k_append hD6 (by omega) ?_
    refine ⟨ys ++ [.ref p], ws ++ [(x, z)], _, _, _, rfl, (L5.same s6).upd nD', by omega, same_hid_mut (S3.trans S36) fr, upd_same, ?_, by simp [hl], fun w hw => ?_⟩
    · rw [hid_upd (by simp), List.map_append]
      refine dpa_app (dpa_same (hid_more S36 (by intro a ha; simp only [List.mem_cons, List.not_mem_nil, or_false] at ha ⊢; rcases ha with h | h <;> simp [h])) hys) (.cons (dp_of_pair (stp ?_)) .nil)
      rw [hid_ne (not_in3 np' pd)]; exact e6
    · rcases List.mem_append.mp hw with h | h
      · exact hok w h
      · have e : w = (x, z) := by simpa using h
        rw [e]; exact ⟨g1, x0, g2, x1, g3⟩
  · rintro σ' H3 ⟨ys, ws, t', k4, k5, rfl, L3, ht3, S3, hD, hys, hl, hok⟩
    wtm_at "s"
    exact q D ys ws t' H3 nD nD' L3 (by omega) S3 hD hys (by omega) hok
abbrev sp_law_ways (K : PySem.W.Frag) : Sp := fun vs H Q E => ∃ v0 v1 v2, vs = [v0, v1, v2] ∧ pr_law_ways K v0 v1 v2 H Q E
theorem ok_law_ways (T : Txt K mg A) : FnOk P w K mg base CX0 2 A.a_law_ways A.d_law_ways ["_law_purse_here", "_law_places", "_law_most"] (sp_law_ways K) := by
  refine T.F_law_ways.ok sc_law_ways (fun vs H Q E h => by obtain ⟨v0, v1, v2, rfl, _⟩ := h; rfl) (fun cdv A0 outer s H vs Q E hr h => ?_)
  obtain ⟨v0, v1, v2, rfl, h⟩ := h
  exact ⟨t_law_ways K, (pss_cons (ps_set (i := 3) sc_law_ways.nd rfl (Or.inl rfl) (pe_lst pa_nil))
      (pss_cons (ps_for PassesOwn.never rfl (pi_range1 (by rfl) T.z_range (pa_cons (pe_call (ok_law_draw T) (hr.mono (by decide)) (by rfl) T.g_law_draw T.F_law_draw.kp T.b_law_draw .nil pass0 (pa_cons (pv 0) (pa_cons (pe_op op_add (pv 2) pe_int) pa_nil))) pa_nil)) (pg_name (i := 4) sc_law_ways.nd rfl (Or.inl rfl))
      (pss_cons (ps_set (i := 5) sc_law_ways.nd rfl (Or.inl rfl) (pe_call (ok_law_draw T) (hr.mono (by decide)) (by rfl) T.g_law_draw T.F_law_draw.kp T.b_law_draw .nil pass0 (pa_cons (pv 0) (pa_cons (pv 1) pa_nil))))
      (pss_one (ps_expr (pe_bm PySem.F.plainAttrs_list PySem.F.slot_list_append PySem.F.type_list_append mt_append (pv 3) (pa_cons (pe_tup (pa_cons (pv 5) (pa_cons (pe_op op_mod (pe_op op_add (pe_op op_add (pv 5) pe_int) (pe_call (ok_law_draw T) (hr.mono (by decide)) (by rfl) T.g_law_draw T.F_law_draw.kp T.b_law_draw .nil pass0 (pa_cons (pv 0) (pa_cons (pe_op op_sub (pv 1) pe_int) pa_nil)))) (pv 1)) pa_nil))) pa_nil))))))
      (pss_one (ps_ret (pv 3))))), pure_law_ways h⟩


def WholeAt : Nat → PyData → Prop
  | _, .int _ => True
  | d + 1, .list ds => ds.length ≤ 10000 ∧ ∀ x ∈ ds, WholeAt d x
  | d + 1, .tuple ds => ds.length ≤ 10000 ∧ ∀ x ∈ ds, WholeAt d x
  | _, _ => False
def sp_wh (K : PySem.W.Frag) (d : Nat) : Sp := fun vs H Q _ => ∃ v0 c, vs = [v0] ∧ Dp K H v0 c ∧ WholeAt d c ∧ ∀ H', Same H H' → Q (.bl true) H'
def t_law_whole (K : PySem.W.Frag) (sp : Sp) : TS :=
  (tSeq (tIfS (tB (tCB (rIsA K) (tCons (tVar 0) (tCons (tTup (tCons (tC (.ty "list")) (tCons (tC (.ty "tuple")) tNil))) tNil)))) (tRet (tCB (rAll K) (tCons (tLc (iAny (iList K (tVar 0)) (iTup K (tVar 0))) (gName 1) tYes (tCall sp [] E0 (tCons (tVar 1) tNil)) [1]) tNil))) tNext)
    (tRet (tAndV (tCB (rIsi K) (tCons (tVar 0) (tCons (tC (.ty "int")) tNil))) (tNotV (tCB (rIsi K) (tCons (tVar 0) (tCons (tC (.ty "bool")) tNil)))))))
theorem ty_tup {K : PySem.W.Frag} {H : Hp} {p : Addr} {xs : List V} (h : SqT K H p xs) : TyX K H (.ref p) (.type "tuple") := by
  rcases h with (h | ⟨o, h⟩) | ⟨o, its, n, h, c, _⟩
  · exact .base (.tup h)
  · exact .fTuple h
  · exact .kTuple h c
theorem ka_i {K : PySem.W.Frag} : PySem.W.kitAny K (.type "int") [.type "list", .type "tuple"] = some false := by
  have h1 : PySem.W.kitOne K (.type "int") (.type "list") = some false := kit_ty (by decide +kernel)
  have h2 : PySem.W.kitOne K (.type "int") (.type "tuple") = some false := kit_ty (by decide +kernel)
  simp [PySem.W.kitAny, h1, h2]
theorem ka_l {K : PySem.W.Frag} : PySem.W.kitAny K (.type "list") [.type "list", .type "tuple"] = some true := by
  have h1 : PySem.W.kitOne K (.type "list") (.type "list") = some true := kit_ty (by decide +kernel)
  simp [PySem.W.kitAny, h1]
theorem ka_t {K : PySem.W.Frag} : PySem.W.kitAny K (.type "tuple") [.type "list", .type "tuple"] = some true := by
  have h1 : PySem.W.kitOne K (.type "tuple") (.type "list") = some false := kit_ty (by decide +kernel)
  have h2 : PySem.W.kitOne K (.type "tuple") (.type "tuple") = some true := kit_ty (by decide +kernel)
  simp [PySem.W.kitAny, h1, h2]
theorem all_true (n : Nat) : (List.replicate n true).all id = true := by simp
theorem fm_true {α : Type} (l : List α) : l.filterMap (fun _ => some (V.bl true)) = (List.replicate l.length true).map V.bl := by
  induction l with
  | nil => rfl
  | cons x r ih => rw [List.filterMap_cons, ih]; rfl
theorem pe_dead0 {X : Cx} {e : Expr} {i : Nat} : PE X e (tCall (fun _ _ _ _ => False) [] E0 (tCons (tVar i) tNil)) := ⟨fun pins s σ H Q I h => by obtain ⟨v, _, h⟩ := h; exact h.elim⟩
theorem pure_wh {d : Nat} {sp : Sp} (hsp : d ≠ 0 → sp = sp_wh K (d - 1)) {v0 : V} {H : Hp} {Q : VK} (h : ∃ c, Dp K H v0 c ∧ WholeAt d c ∧ ∀ H', Same H H' → Q (.bl true) H') : t_law_whole K sp ⟨fun _ H' => Q .non H', Q, fun _ _ => False, fun _ _ => False⟩ [some v0, none] H := by
  obtain ⟨c, hd, hw, q⟩ := h
  unfold t_law_whole
  wtm_at "s"
  refine kT (by simp) (fun tp H1 ntp s1 e1 => ?_)
  wtm_at "s"
  cases hd with
  | int i =>
    refine .inr (.inl ⟨_, tp, _, .type "int", _, false, rfl, e1, .cons (.ty _) (.cons (.ty _) .nil), .base (.int i), ka_i, ?_⟩)
    wtm_at "s"
    exact q _ s1
  | lst hs hr =>
    cases d with
    | zero => exact absurd hw (by simp [WholeAt])
    | succ d =>
      obtain ⟨hz, hall⟩ := hw
      obtain rfl := hsp (by omega)
      have hl := dpa_len hr
      refine .inr (.inl ⟨_, tp, _, .type "list", _, true, rfl, e1, .cons (.ty _) (.cons (.ty _) .nil), ty_list (s1.seq hs), ka_l, ?_⟩)
      wtm_at "s"
      refine .inl ?_
      wtm_at "s"
      refine lc_grow (s1.seq hs) _ hl (by omega) (fun _ => some (V.bl true)) ?_ (fun D H2 nD s2 eD => ?_)
      · intro i x p H' hx hp sm R R0 h1 h2
        obtain ⟨p', hp', dx⟩ := dpa_get hr hx
        rw [hp] at hp'
        cases hp'
        wtm_at "s"
        exact ⟨_, p, rfl, dp_same (s1.trans sm) dx, hall p (List.mem_of_getElem? hp), fun H'' s'' => h1 _ _ rfl s''⟩
      · rw [fm_true] at eD
        wtm_at "s"
        refine ⟨D, _, rfl, sl eD, ?_⟩
        rw [all_true]
        exact q _ (s1.trans s2)
  | tup hs hr =>
    cases d with
    | zero => exact absurd hw (by simp [WholeAt])
    | succ d =>
      obtain ⟨hz, hall⟩ := hw
      obtain rfl := hsp (by omega)
      have hl := dpa_len hr
      refine .inr (.inl ⟨_, tp, _, .type "tuple", _, true, rfl, e1, .cons (.ty _) (.cons (.ty _) .nil), ty_tup (same_seqT s1 hs), ka_t, ?_⟩)
      wtm_at "s"
      refine .inr ?_
      wtm_at "s"
      refine ⟨_, rfl, ⟨_, same_seqT s1 hs⟩, fun D nD => ?_⟩
      refine lc_it walk_tup (fun i H' => Same H1 H' ∧ H' D = some (.lst ((List.replicate i true).map V.bl))) ⟨same_new nD, upd_same⟩ (fun i H' _ e => same_seqT (s1.trans e.1) hs) ?_ ?_
      · rintro i x H2 H3 hi ⟨s2, eD⟩ ⟨rfl, hx⟩
        obtain ⟨p, hp, dx⟩ := dpa_get hr hx
        wtm_at "s"
        refine ⟨_, p, rfl, dp_same (s1.trans s2) dx, hall p (List.mem_of_getElem? hp), fun H'' s'' => ⟨_, s'' _ _ eD, szl (by simp; omega), same_mut (s2.trans s'') nD, ?_⟩⟩
        rw [upd_same, List.replicate_succ', List.map_append]; rfl
      · rintro H2 ⟨s2, eD⟩
        wtm_at "s"
        refine ⟨D, _, rfl, sl eD, ?_⟩
        rw [all_true]
        exact q _ (s1.trans s2)
  | non => cases d <;> exact absurd hw (by simp [WholeAt])
  | bl b => cases d <;> exact absurd hw (by simp [WholeAt])
  | str x => cases d <;> exact absurd hw (by simp [WholeAt])
theorem ok_wh (T : Txt K mg A) : ∀ d : Nat, FnOk P w K mg base CX0 (d + 1) A.a_law_whole A.d_law_whole ["_law_found"] (sp_wh K d) := by
  intro d
  induction d with
  | zero =>
    refine T.F_law_whole.ok sc_law_whole (fun vs H Q E h => by obtain ⟨v0, _, rfl, _⟩ := h; rfl) (fun cdv A0 outer s H vs Q E hr h => ?_)
    obtain ⟨v0, c, rfl, h1, h2, h3⟩ := h
    exact ⟨t_law_whole K (fun _ _ _ _ => False), (pss_cons (ps_if (pt_val (pe_callB q_isA (by rfl) T.z_isinstance (by decide +kernel) (pa_cons (pv 0) (pa_cons (pe_tup (pa_cons (pe_bltn (v := .ty "list") (by rfl) T.z_list (by decide +kernel) rfl) (pa_cons (pe_bltn (v := .ty "tuple") (by rfl) T.z_tuple (by decide +kernel) rfl) pa_nil))) pa_nil)))) (pss_one (ps_ret (pe_callB (cr_all (by rfl)) (by rfl) T.z_all (by decide +kernel) (pa_cons (pe_lc (own := [("_law_one", 1)]) (by rfl) sc_law_whole.nd (pi_any (pi_list (pv 0)) (pi_tup (pv 0))) (blkOk_by (own := [("_law_one", 1)]) (N := ["_law_found", "_law_one"]) (sc := defScope s_law_whole) (by decide +kernel)) (fun _ _ _ _ _ => (pg_name (i := 1) sc_law_whole.nd rfl (Or.inl rfl))) (fun _ _ _ _ _ => pts_nil) (fun _ _ _ _ _ => pe_dead0)) pa_nil)))) pss_nil)
      (pss_one (ps_ret (pe_and (pe_callB q_isi (by rfl) T.z_isinstance (by decide +kernel) (pa_cons (pv 0) (pa_cons (pe_bltn (v := .ty "int") (by rfl) T.z_int (by decide +kernel) rfl) pa_nil))) (pe_one (pe_not (pe_callB q_isi (by rfl) T.z_isinstance (by decide +kernel) (pa_cons (pv 0) (pa_cons (pe_bltn (v := .ty "bool") (by rfl) T.z_bool (by decide +kernel) rfl) pa_nil))))))))), pure_wh (d := 0) (fun h => absurd rfl h) ⟨c, h1, h2, h3⟩⟩
  | succ d ih =>
    refine T.F_law_whole.ok sc_law_whole (fun vs H Q E h => by obtain ⟨v0, _, rfl, _⟩ := h; rfl) (fun cdv A0 outer s H vs Q E hr h => ?_)
    obtain ⟨v0, c, rfl, h1, h2, h3⟩ := h
    exact ⟨t_law_whole K (sp_wh K d), (pss_cons (ps_if (pt_val (pe_callB q_isA (by rfl) T.z_isinstance (by decide +kernel) (pa_cons (pv 0) (pa_cons (pe_tup (pa_cons (pe_bltn (v := .ty "list") (by rfl) T.z_list (by decide +kernel) rfl) (pa_cons (pe_bltn (v := .ty "tuple") (by rfl) T.z_tuple (by decide +kernel) rfl) pa_nil))) pa_nil)))) (pss_one (ps_ret (pe_callB (cr_all (by rfl)) (by rfl) T.z_all (by decide +kernel) (pa_cons (pe_lc (own := [("_law_one", 1)]) (by rfl) sc_law_whole.nd (pi_any (pi_list (pv 0)) (pi_tup (pv 0))) (blkOk_by (own := [("_law_one", 1)]) (N := ["_law_found", "_law_one"]) (sc := defScope s_law_whole) (by decide +kernel)) (fun _ _ _ _ _ => (pg_name (i := 1) sc_law_whole.nd rfl (Or.inl rfl))) (fun _ _ _ _ _ => pts_nil) (fun _ _ _ _ _ => (pe_call ih (hr.mono (by omega)) (by rfl) T.g_law_whole T.F_law_whole.kp T.b_law_whole .nil pass0 (pa_cons (pv 1) pa_nil)))) pa_nil)))) pss_nil)
      (pss_one (ps_ret (pe_and (pe_callB q_isi (by rfl) T.z_isinstance (by decide +kernel) (pa_cons (pv 0) (pa_cons (pe_bltn (v := .ty "int") (by rfl) T.z_int (by decide +kernel) rfl) pa_nil))) (pe_one (pe_not (pe_callB q_isi (by rfl) T.z_isinstance (by decide +kernel) (pa_cons (pv 0) (pa_cons (pe_bltn (v := .ty "bool") (by rfl) T.z_bool (by decide +kernel) rfl) pa_nil))))))))), pure_wh (d := d + 1) (fun _ => rfl) ⟨c, h1, h2, h3⟩⟩
abbrev sp_law_whole (K : PySem.W.Frag) : Sp := sp_wh K 4
theorem ok_law_whole (T : Txt K mg A) : FnOk P w K mg base CX0 5 A.a_law_whole A.d_law_whole ["_law_found"] (sp_law_whole K) := ok_wh T 4
theorem k_isiT {K : PySem.W.Frag} {H : Hp} {Q : VK} {p : Addr} {xs : List V} (hs : SqT K H p xs) (h : Q (.bl true) H) : rIsi K [.ref p, .ty "tuple"] H Q := k_isi (ty_tup hs) (by decide +kernel) h
theorem wh_pairs {d : Nat} {ps : List (Int × Int)} (h : ps.length ≤ 10000) : WholeAt (d + 2) (dPairs ps) := ⟨by simpa using h, fun x hx => by
  obtain ⟨p, _, rfl⟩ := List.mem_map.mp hx
  refine ⟨by simp, fun y hy => ?_⟩
  simp only [List.mem_cons, List.not_mem_nil, or_false] at hy
  rcases hy with rfl | rfl <;> simp [WholeAt]⟩
theorem wh_ints {d : Nat} {ns : List Int} (h : ns.length ≤ 10000) : WholeAt (d + 1) (dInts ns) := ⟨by simpa using h, fun x hx => by
  obtain ⟨p, _, rfl⟩ := List.mem_map.mp hx
  simp [WholeAt]⟩
theorem wh_cr {n : Int} {ps : List (Int × Int)} {ns : List Int} (h1 : ps.length ≤ 10000) (h2 : ns.length ≤ 10000) : WholeAt 4 (dCrN n ps ns) := by
  refine ⟨by simp, fun x hx => ?_⟩
  simp only [List.mem_cons, List.not_mem_nil, or_false] at hx
  rcases hx with rfl | rfl
  · refine ⟨by simp, fun y hy => ?_⟩
    simp only [List.mem_cons, List.not_mem_nil, or_false] at hy
    rcases hy with rfl | rfl
    · simp [WholeAt]
    · exact wh_pairs h1
  · exact wh_ints h2
theorem sh_cr {n : Int} {ps : List (Int × Int)} {ns : List Int} : Sh 4 (dCrN n ps ns) := sh_two (sh_two sh_int (sh_pairs ps)) (sh_ints ns)
def pr_law_same (K : PySem.W.Frag) (v0 v1 : V) (H : Hp) (Q : VK) (_ : XK) : Prop := ∃ (n : Int) (ps : List (Int × Int)) (ns : List Int), ps.length ≤ 10000 ∧ ns.length ≤ 10000 ∧ Dp K H v0 (dCrN n ps ns) ∧ Dp K H v1 (dCrN n ps ns) ∧ ∀ H', Same H H' → Q (.bl true) H'
def t_law_same (K : PySem.W.Frag) : TS :=
  (tSeq (tIfS (tOr (tNot (tB (tCB (rIsi K) (tCons (tVar 0) (tCons (tC (.ty "tuple")) tNil))))) (tOr (tTest (tOp (rNeD K) (tVar 0) (tVar 1))) (tNot (tB (tCall (sp_law_whole K) [] E0 (tCons (tVar 0) tNil)))))) (tRet (tC (.bl false))) tNext)
    (tRet (tAndV (tCB (rIsi K) (tCons (tOp (rIxT K) (tVar 0) (tC (.int 0))) (tCons (tC (.ty "tuple")) tNil))) (tAndV (tCB (rIsi K) (tCons (tOp (rIxT K) (tOp (rIxT K) (tVar 0) (tC (.int 0))) (tC (.int 1))) (tCons (tC (.ty "list")) tNil))) (tCB (rIsi K) (tCons (tOp (rIxT K) (tVar 0) (tC (.int 1))) (tCons (tC (.ty "list")) tNil)))))))
theorem pure_law_same {v0 v1 : V} {H : Hp} {Q : VK} {E : XK} (h : pr_law_same K v0 v1 H Q E) : t_law_same K ⟨fun _ H' => Q .non H', Q, fun _ _ => False, fun _ _ => False⟩ [some v0, some v1] H := by
  obtain ⟨n, ps, ns, h1, h2, d0, d1, q⟩ := h
  obtain ⟨a, x, y, rfl, hs, hx, hy⟩ := dp_tup2 d0
  obtain ⟨b, x2, y2, rfl, hs2, hx2, hy2⟩ := dp_tup2 hx
  obtain ⟨c, xs, rfl, hc, _⟩ := dp_list hy2
  obtain ⟨e, rfl, he⟩ := dp_ints hy
  unfold t_law_same
  wtm_at "s"
  refine k_isiT hs ?_
  wtm_at "s"
  refine k_neD0 d0 d1 sh_cr (by decide) ?_
  wtm_at "s"
  refine ⟨_, _, rfl, d0, wh_cr h1 h2, fun H1 s1 => ?_⟩
  wtm_at "s"
  refine k_isiT (same_seqT s1 hs2) ?_
  wtm_at "s"
  exact q _ s1
abbrev sp_law_same (K : PySem.W.Frag) : Sp := fun vs H Q E => ∃ v0 v1, vs = [v0, v1] ∧ pr_law_same K v0 v1 H Q E
theorem ok_law_same (T : Txt K mg A) : FnOk P w K mg base CX0 6 A.a_law_same A.d_law_same ["_law_found", "_law_due_here"] (sp_law_same K) := by
  refine T.F_law_same.ok sc_law_same (fun vs H Q E h => by obtain ⟨v0, v1, rfl, _⟩ := h; rfl) (fun cdv A0 outer s H vs Q E hr h => ?_)
  obtain ⟨v0, v1, rfl, h⟩ := h
  exact ⟨t_law_same K, (pss_cons (ps_if (PW.pt (pw_or (pt_not (pt_val (pe_callB q_isi (by rfl) T.z_isinstance (by decide +kernel) (pa_cons (pv 0) (pa_cons (pe_bltn (v := .ty "tuple") (by rfl) T.z_tuple (by decide +kernel) rfl) pa_nil))))) (pw_or (pt_cmpR (op_neD hr.units) (pv 0) (pv 1) (nomark _)) (pw_or1 (pt_not (pt_val (pe_call (ok_law_whole T) (hr.mono (by decide)) (by rfl) T.g_law_whole T.F_law_whole.kp T.b_law_whole .nil pass0 (pa_cons (pv 0) pa_nil)))))))) (pss_one (ps_ret pe_bl)) pss_nil)
      (pss_one (ps_ret (pe_and (pe_callB q_isi (by rfl) T.z_isinstance (by decide +kernel) (pa_cons (pe_ix ix_tup (pv 0) pe_int (fun _ _ => rfl)) (pa_cons (pe_bltn (v := .ty "tuple") (by rfl) T.z_tuple (by decide +kernel) rfl) pa_nil))) (pe_and (pe_callB q_isi (by rfl) T.z_isinstance (by decide +kernel) (pa_cons (pe_ix ix_tup (pe_ix ix_tup (pv 0) pe_int (fun _ _ => rfl)) pe_int (fun _ _ => rfl)) (pa_cons (pe_bltn (v := .ty "list") (by rfl) T.z_list (by decide +kernel) rfl) pa_nil))) (pe_one (pe_callB q_isi (by rfl) T.z_isinstance (by decide +kernel) (pa_cons (pe_ix ix_tup (pv 0) pe_int (fun _ _ => rfl)) (pa_cons (pe_bltn (v := .ty "list") (by rfl) T.z_list (by decide +kernel) rfl) pa_nil))))))))), pure_law_same h⟩


/-- a comprehension over a list, each turn gives a new thing of which F tells the data -/
theorem lc_dp {σ : L2.St} {vs : List Nat} {g : TG} {te : TE} {H1 : Hp} {QD : Addr → Hp → Prop} {α : Type} {a : Addr} {xs : List V} (S0 : List Addr) (hS : ∀ b ∈ S0, H1 b ≠ none) (hs : SqL K H1 a xs) (ps : List α) (hl : xs.length = ps.length) (hz : ps.length ≤ 50000) (F : α → PyData)
    (step : ∀ (i : Nat) x p H', xs[i]? = some x → ps[i]? = some p → Same H1 H' → ∀ (R : V → Hp → Prop), (∀ y H'', Same H' H'' → (∀ S : List Addr, (∀ b ∈ S, H' b ≠ none) → Dp K (hid S H'') y (F p)) → R y H'') →
      g x (wipe σ vs) H' fun σ2 H2 => wipe σ2 vs = wipe σ vs ∧ te σ2 H2 R)
    (h : ∀ D ys H', H1 D = none → Same H1 H' → H' D = some (.lst ys) → DpAll K (hid (D :: S0) H') ys (ps.map F) → QD D H') (hg : ∀ x σ' H (q q' : L2.St → Hp → Prop), (∀ s H, q s H → q' s H) → g x σ' H q → g x σ' H q') :
    ∃ a', V.ref a = .ref a' ∧ (∃ xs, SqL K H1 a' xs) ∧ ∀ D, H1 D = none → ∃ W : Nat → Nat → Hp → Prop, (∃ m, W 0 m (upd H1 D (.lst []))) ∧ ∀ i m H, W i m H →
      ((Itl K a').stop i H ∧ QD D H) ∨ ((Itl K a').go i H ∧ ∃ Nx : Hp → Prop, (∀ H', Nx H' → ∃ m', m' < m ∧ W (i + 1) m' H') ∧ ∀ x H', (Itl K a').yld i H x H' → g x (wipe σ vs) H' fun σ2 H2 => wipe σ2 vs = wipe σ vs ∧ tYes σ2 H2 fun b H3 =>
        if b = true then te σ2 H3 fun y H4 => ∃ acc, H4 D = some (.lst acc) ∧ acc.length < sizeLine ∧ Nx (upd H4 D (.lst (acc ++ [y]))) else Nx H3) := by
  refine ⟨a, rfl, ⟨xs, hs⟩, fun D nD => lc_list (xs := xs) (fun i H => Same H1 H ∧ ∃ ys, H D = some (.lst ys) ∧ ys.length = i ∧ DpAll K (hid (D :: S0) H) ys ((ps.take i).map F)) ⟨same_new nD, [], upd_same, rfl, .nil⟩ (fun i H _ e => e.1.seq hs) ?_ ?_⟩
  · rintro i x H hx ⟨sm, ys, hD, hly, hys⟩
    have hi : i < xs.length := (List.getElem?_eq_some_iff.mp hx).1
    obtain ⟨p, hp⟩ : ∃ p, ps[i]? = some p := ⟨ps[i]'(by omega), List.getElem?_eq_getElem (by omega)⟩
    refine hg _ _ _ _ _ (fun s2 H2 hh => ⟨hh.1, k_yes (iteT hh.2)⟩) (step i x p H hx hp sm _ (fun y H'' s2 dy => ⟨ys, s2 _ _ hD, szl (by omega), same_mut (sm.trans s2) nD, ys ++ [y], upd_same, by simp [hly], ?_⟩))
    rw [hid_upd (by simp), List.take_add_one, hp, List.map_append]
    refine dpa_app (dpa_same (hid_mono s2) hys) (.cons (dy _ fun b hb => ?_) .nil)
    rcases List.mem_cons.mp hb with e | hb
    · rw [e, hD]; exact fun z => nomatch z
    · intro z
      exact hS b hb (sm.free z)
  · rintro H ⟨sm, ys, hD, hly, hys⟩
    rw [hl, List.take_length] at hys
    exact h D ys H nD sm hD hys
/-- drawn numbers, over a range -/
theorem lc_pdraws {σ : L2.St} {vs : List Nat} {l : Nat} {tm : TE} {pu ce : Addr} {n : Nat} {m t lo : Int} {N : Nat} {H1 : Hp} {QD : Addr → Hp → Prop} {i : Nat}
    (hi : ∀ x, ((wipe σ vs).set l (some x))[i]? = some (some (.ref pu))) (hwp : ∀ x, wipe ((wipe σ vs).set l (some x)) vs = wipe σ vs)
    (L : Pu H1 pu ce n t) (ht : t + N < 900000) (hm : ∀ x H' (R : V → Hp → Prop), Same (hid [pu, ce] H1) (hid [pu, ce] H') → R (.int m) H' → tm ((wipe σ vs).set l (some x)) H' R) (m0 : 0 < m) (m1 : m < 2 ^ 100) (hN : N ≤ 10000)
    (h : ∀ D us H', H1 D = none → D ∉ [pu, ce] → Pu H' pu ce n (t + N) → Same (hid [pu, ce] H1) (hid [pu, ce] H') → H' D = some (.lst (List.map V.int us)) → us.length = N → (∀ u ∈ us, 0 ≤ u ∧ u < m) → QD D H') :
    ∀ D, H1 D = none → ∃ W : Nat → Nat → Hp → Prop, (∃ m, W 0 m (upd H1 D (.lst []))) ∧ ∀ t m' H, W t m' H →
      ((Itr lo N).stop t H ∧ QD D H) ∨ ((Itr lo N).go t H ∧ ∃ Nx : Hp → Prop, (∀ H', Nx H' → ∃ m'', m'' < m' ∧ W (t + 1) m'' H') ∧ ∀ x H', (Itr lo N).yld t H x H' → gName l x (wipe σ vs) H' fun σ2 H2 => wipe σ2 vs = wipe σ vs ∧ tYes σ2 H2 fun b H3 =>
        if b = true then tCall (sp_law_draw K) [] E0 (tCons (tVar i) (tCons tm tNil)) σ2 H3 fun y H4 => ∃ acc, H4 D = some (.lst acc) ∧ acc.length < sizeLine ∧ Nx (upd H4 D (.lst (acc ++ [y]))) else Nx H3) := by
  intro D nD
  have nD' := L.fresh nD
  have fr : hid [pu, ce] H1 D = none := by rw [hid_ne nD']; exact nD
  refine lc_range (fun j H => Pu H pu ce n (t + j) ∧ Same (hid [pu, ce] H1) (hid [pu, ce] H) ∧ ∃ us, H D = some (.lst (List.map V.int us)) ∧ us.length = j ∧ ∀ u ∈ us, 0 ≤ u ∧ u < m) ⟨by simpa using L.upd nD', same_hid_new nD, [], upd_same, rfl, fun _ z => by cases z⟩ ?_ ?_
  · rintro j H hj ⟨Lt, St, us, hD, hl, hok⟩
    refine ⟨hwp _, ?_⟩
    refine k_yes (iteT (k_call (k_cons (k_var (hi _) (k_cons (hm _ _ _ St (k_nil ?_)))))))
    refine ⟨_, _, rfl, pu, ce, n, t + j, m, rfl, rfl, Lt, by omega, m0, by omega, fun r H' r0 r1 L' S' => ?_⟩
    refine ⟨_, keeps S' hD nD', szl (by rw [List.length_map]; omega), ?_, same_hid_mut (St.trans S') fr, us ++ [r], by rw [upd_same, List.map_append]; rfl, by simp [hl], fun u hu => ?_⟩
    · have e : t + ((j + 1 : Nat) : Int) = t + j + 1 := by omega
      rw [e]; exact L'.upd nD'
    · rcases List.mem_append.mp hu with hu | hu
      · exact hok u hu
      · have e : u = r := by simpa using hu
        subst e
        exact ⟨r0, r1⟩
  · rintro H ⟨Lt, St, us, hD, hl, hok⟩
    exact h D us H nD nD' Lt St hD hl hok


def sp_law (K : PySem.W.Frag) : Sp := fun vs H Q _ => ∃ (a : Addr) (ns : List Int), vs = [.ref a] ∧ SqL K H a (ns.map V.int) ∧ ns.length ≤ 63 ∧ ∀ H', Q (.bl true) H'
def t_law (K : PySem.W.Frag) : TS :=
  (tSeq (tAsg (tCall (sp_law_purse K) [] E0 (tCons (tVar 0) tNil)) (gName 1))
    (tSeq (tFor (iRng1 (tCons (tC (.int 2)) tNil)) (gName 2)
      (tSeq (tAsg (tCall (sp_law_tree K) [] E0 (tCons (tVar 1) tNil)) (gName 3))
    (tSeq (tAsg (tCall (sp_law_ways K) [] E0 (tCons (tVar 1) (tCons (tOp xAdd (tCB (rLen K) (tCons (tVar 3) tNil)) (tC (.int 1))) (tCons (tC (.int 40)) tNil)))) (gName 4))
    (tSeq (tAsg (tTup (tCons (tC (.str (Str.ofString "tree"))) (tCons (tCB (rListOf K) (tCons (tVar 3) tNil)) tNil))) (gName 5))
    (tSeq (tAsg (tCB (rListOf K) (tCons (tVar 4) tNil)) (gName 6))
    (tSeq (tAsg (tLc (iList K (tVar 4)) (gName 12) tYes (tCall (sp_law_ties K) [] E0 (tCons (tVar 3) (tCons (tVar 12) tNil))) [12]) (gName 7))
    (tSeq (tAsg (tLstRg (tRg1 (tOp xAdd (tCB (rLen K) (tCons (tVar 3) tNil)) (tC (.int 1))))) (gName 8))
    (tSeq (tIfS (tTest (tOp xGt (tCB (rLen K) (tCons (tVar 8) tNil)) (tC (.int 20)))) (tAsg (tLc (iRng1 (tCons (tC (.int 8)) tNil)) (gName 13) tYes (tCall (sp_law_draw K) [] E0 (tCons (tVar 1) (tCons (tOp xAdd (tCB (rLen K) (tCons (tVar 3) tNil)) (tC (.int 1))) tNil))) [13]) (gName 8)) tNext)
    (tFor (iList K (tVar 8)) (gName 9)
      (tSeq (tAsg (tCall (sp_crossing_at K) [] E0 (tCons (tVar 5) (tCons (tVar 6) (tCons (tVar 9) tNil)))) (gName 10))
    (tSeq (tAsg (tCall (sp_law_due K) [] E0 (tCons (tVar 3) (tCons (tVar 7) (tCons (tVar 9) tNil)))) (gName 11))
    (tSeq (tIfS (tOr (tNot (tB (tCall (sp_law_same K) [] E0 (tCons (tVar 10) (tCons (tVar 11) tNil))))) (tOr (tTest (tOp (rNeD K) (tOp (rIxT K) (tVar 5) (tC (.int 1))) (tVar 3))) (tTest (tOp (rNeD K) (tVar 6) (tVar 4))))) (tRet (tC (.bl false))) tNext)
    (tSeq (tDrop (tBM K "list" rAppend (tOp (rIxT K) (tOp (rIxT K) (tVar 10) (tC (.int 0))) (tC (.int 1))) (tCons (tTup (tCons (tC (.int 0)) (tCons (tC (.int 0)) tNil))) tNil)))
    (tSeq (tDrop (tBM0 K "list" rClear (tOp (rIxT K) (tVar 10) (tC (.int 1)))))
    (tSeq (tDrop (tBM K "list" rAppend (tOp (rIxT K) (tCall (sp_crossing_at K) [] E0 (tCons (tVar 5) (tCons (tVar 6) (tCons (tC (.int 0)) tNil)))) (tC (.int 1))) (tCons (tUn xNeg (tC (.int 1))) tNil)))
    (tIfS (tNot (tB (tCall (sp_law_same K) [] E0 (tCons (tCall (sp_crossing_at K) [] E0 (tCons (tVar 5) (tCons (tVar 6) (tCons (tVar 9) tNil)))) (tCons (tVar 11) tNil))))) (tRet (tC (.bl false))) tNext))))))))))))))))
    (tRet (tC (.bl true)))))
theorem crP_le (ps : List Int) (x : Int) (ws : List (Int × Int)) : (crPairs ps x ws).length ≤ ws.length := List.length_filterMap_le _ _
theorem crN_le (ps : List Int) (x : Int) (ws : List (Int × Int)) : (crNums ps x ws ws.length).length ≤ ws.length := by
  unfold crNums
  rw [List.length_map]
  exact Nat.le_trans (List.length_filter_le _ _) (by simp)
theorem in3 {a b c : Addr} : ∀ x ∈ [a, b], x ∈ c :: [a, b] := fun x hx => List.mem_cons_of_mem _ hx
theorem in3' {a b c : Addr} : ∀ x ∈ [a, b], x ∈ [a, b, c] := fun x hx => by
  simp only [List.mem_cons, List.not_mem_nil, or_false] at hx ⊢
  rcases hx with h | h <;> simp [h]
theorem pure_law {v0 : V} {H : Hp} {Q : VK} (h : ∃ (a : Addr) (ns : List Int), v0 = .ref a ∧ SqL K H a (ns.map V.int) ∧ ns.length ≤ 63 ∧ ∀ H', Q (.bl true) H') : t_law K ⟨fun _ H' => Q .non H', Q, fun _ _ => False, fun _ _ => False⟩ [some v0, none, none, none, none, none, none, none, none, none, none, none, none, none] H := by
  obtain ⟨a, ns, rfl, ha, hz, q⟩ := h
  unfold t_law
  wtm_at "s"
  refine ⟨_, rfl, a, ns, rfl, ha, hz, fun pu ce n H1 s1 npu nce L1 => ?_⟩
  clear s1 npu nce ha hz
  wtm_at "s"
  refine forR (fun i σ' H' => ∃ (t : Int) (k2 k3 k4 k5 k6 k7 k8 k9 k10 k11 k12 k13 : Option V), σ' = [some (.ref a), some (.ref pu), k2, k3, k4, k5, k6, k7, k8, k9, k10, k11, k12, k13] ∧ Pu H' pu ce n t ∧ t ≤ 1000 * i) ⟨0, _, _, _, _, _, _, _, _, _, _, _, _, rfl, L1, by simp⟩ ?_ ?_
  · rintro i σ' H2 hi ⟨t, k2, k3, k4, k5, k6, k7, k8, k9, k10, k11, k12, k13, rfl, L2, ht⟩
    have hi2 : i < 2 := hi
    wtm_at "s"
    refine ⟨_, rfl, pu, ce, n, t, rfl, L2, by omega, fun pp ps t3 H3 npp npp' L3 ht3 S3 epp ok => ?_⟩
    have l60 := ok.2.1
    have l1 := ok.1
    wtm_at "s"
    refine ⟨_, _, _, rfl, pu, ce, n, t3, _, 40, rfl, rfl, rfl, L3, by omega, by omega, by omega, by decide, by decide, fun wl ys ws t4 H4 nwl nwl' L4 ht4 S4 hwl hys lw hok => ?_⟩
    have ewl : hid [pu, ce] H4 wl = some (.lst ys) := by rw [hid_ne nwl']; exact hwl
    have hysF : DpAll K (hid [pu, ce] H4) ys (ws.map dPair) := dpa_same (hid_sub in3') hys
    have dWs : Dp K (hid [pu, ce] H4) (.ref wl) (dPairs ws) := .lst (sl ewl) hysF
    have hokw : ∀ w ∈ ws, isWay (.tree ps) w.1 w.2 := fun w hw => hok w hw
    have ly := dpa_len hys
    rw [List.length_map] at ly
    have lw2 : ws.length ≤ 40 := by omega
    clear hys hwl
    wtm_at "s"
    refine k_listN (by wtm_at "sq") (fun pl H5 npl s5 e5 => ?_)
    replace e5 := L4.at npl e5
    have L5 := L4.same s5
    wtm_at "s"
    refine kTq L5 (by simp) (fun nt H6 nnt s6 e6 => ?_)
    have dNt : Dp K (hid [pu, ce] H6) (.ref nt) (Net.tree ps).d := .tup (stp e6) (.cons (.str _) (.cons (dpI_at e5 (by wtm_at "sm")) .nil))
    have L6 := L5.same s6
    wtm_at "s"
    refine k_listN (ys := ys) (by wtm_at "sq") (fun hd H7 nhd s7 e7 => ?_)
    replace e7 := L6.at nhd e7
    have dHd : Dp K (hid [pu, ce] H7) (.ref hd) (dPairs ws) := .lst (sl e7) (by wtm_at "dp")
    have L7 := L6.same s7
    have inP : ∀ b ∈ [pu, ce], H7 b ≠ none := fun b hb => by
      obtain ⟨cs, _, hc⟩ := L7.hc
      simp only [List.mem_cons, List.not_mem_nil, or_false] at hb
      rcases hb with rfl | rfl
      · rw [L7.hp]; exact fun z => nomatch z
      · rw [hc]; exact fun z => nomatch z
    wtm_at "s"
    refine lc_dp (xs := ys) [pu, ce] inP (by wtm_at "sq") ws ly (by omega) (fun w => dInts (treeTies ps w)) ?_ (fun ln zs H8 nln s8 e8 hzs => ?_) (fun x σ' H q q' hq hg => hq _ _ hg)
    · intro j x w H' hx hp sm R hR
      have dd : DpAll K H7 ys (ws.map dPair) := by wtm_at "dp"
      obtain ⟨d, hd1, hd2⟩ := dpa_get dd hx
      rw [List.getElem?_map, hp] at hd1
      cases hd1
      wtm_at "s"
      refine ⟨_, _, rfl, ps, w, by wtm_at "dp", ok, dp_same sm hd2, hokw w (List.mem_of_getElem? hp), fun o H'' no so eo => ?_⟩
      exact hR _ _ so fun S hS => dp_of_ints (sl (by rw [hid_ne fun z => hS o z no]; exact eo))
    have nln' := L7.fresh nln
    have eln : hid [pu, ce] H8 ln = some (.lst zs) := by rw [hid_ne nln']; exact e8
    have dLn : Dp K (hid [pu, ce] H8) (.ref ln) (.list (ws.map fun w => dInts (treeTies ps w))) := .lst (sl eln) (dpa_same (hid_sub in3) hzs)
    have L8 := L7.same s8
    clear hzs e8 inP
    wtm_at "s"
    refine kR (.of_le (by omega) (by omega) (by omega) (by omega)) (fun rp H9 nrp s9 e9 => ?_)
    rw [rg_ints] at e9
    replace e9 := L8.at nrp e9
    have L9 := L8.same s9
    refine k_gname (k_seq (ifsjoin (fun σ' H' => ∃ (us : List Int) (rp : Addr) (t' : Int), σ' = [some (.ref a), some (.ref pu), some (.int (0 + i)), some (.ref pp), some (.ref wl), some (.ref nt), some (.ref hd), some (.ref ln), some (.ref rp), k9, k10, k11, k12, k13] ∧ Pu H' pu ce n t' ∧ t' ≤ 1000 * ((i + 1 : Nat) : Int) ∧ Same (hid [pu, ce] H9) (hid [pu, ce] H') ∧ hid [pu, ce] H' rp = some (.lst (us.map V.int)) ∧ us.length ≤ 1000 ∧ ∀ u ∈ us, 0 ≤ u ∧ u ≤ ps.length) ?_ (fun main => ?_)))
    · clear e9 nrp rp
      rintro σ' HA ⟨us, rp, tA, rfl, LA, htA, SA, eA, lus, hus⟩
      wtm_at "s"
      refine forL (K := K) (b := rp) (xs := us.map V.int) (sl_at eA (hid_same _ _)) (fun j σ' H' => Same HA H' ∧ ∃ k9 k10 k11, σ' = [some (.ref a), some (.ref pu), some (.int (0 + i)), some (.ref pp), some (.ref wl), some (.ref nt), some (.ref hd), some (.ref ln), some (.ref rp), k9, k10, k11, k12, k13]) ⟨Same.refl _, _, _, _, rfl⟩ (fun j σ' H' _ e => sl_at eA ((hid_same _ _).trans e.1)) ?_ ?_
      · rintro j x σ' HB hx ⟨sB, k9, k10, k11, rfl⟩
        rw [List.getElem?_map] at hx
        obtain ⟨u, hu, rfl⟩ := Option.map_eq_some_iff.mp hx
        obtain ⟨u0, u1⟩ := hus u (List.mem_of_getElem? hu)
        have lp := crP_le ps u ws
        have lnn := crN_le ps u ws
        wtm_at "s"
        refine ⟨_, _, _, rfl, ps, ws, u, rfl, by wtm_at "dp", ok, by wtm_at "dp", by omega, hokw, u0, u1, fun p HC cr1 => ?_⟩
        have sC := cr1.same
        have d1 := cr1.dp
        obtain ⟨q1, pl1, nl1, ys1, np1, nq1, npl1, nnl1, pne, ep1, eq1, epl1, dys1, enl1⟩ := cr1.ex
        have ly1 := dpa_len (dys1 [] (by simp))
        rw [List.length_map] at ly1
        wtm_at "s"
        refine ⟨_, _, _, rfl, ps, ws, u, rfl, by wtm_at "dp", ok, by wtm_at "dp", by omega, fun d HD cr2 => ?_⟩
        have sD := cr2.same
        have d2 : Dp K (hid [pl1, nl1] HD) (.ref d) _ := cr2.dph (S := [pl1, nl1]) (fun b hb => by
          simp only [List.mem_cons, List.not_mem_nil, or_false] at hb
          rcases hb with rfl | rfl
          · rw [epl1]; exact fun z => nomatch z
          · rw [enl1]; exact fun z => nomatch z)
        wtm_at "s"
        refine ⟨_, _, rfl, _, _, _, by omega, by omega, by wtm_at "dp", cr2.dp, fun HE sE => ?_⟩
        wtm_at "s"
        refine k_neD0 (n := 4) (c := dInts ps) (by wtm_at "dp") (by wtm_at "dp") (sh_ints _) (by decide) ?_
        wtm_at "s"
        refine k_neD0 (n := 4) (c := dPairs ws) (by wtm_at "dp") (by wtm_at "dp") (sh_pairs _) (by decide) ?_
        wtm_at "s"
        refine k_tyL (by wtm_at "sq") ?_
        wtm_at "s"
        refine kT (by simp) (fun t0 HF nt0 sF e0 => ?_)
        wtm_at "s"
        have sCF : Same HC HF := sD.trans (sE.trans sF)
        refine k_append (sCF _ _ epl1) (by omega) ?_
        have p1n : p ≠ pl1 := fun e => by rw [e, epl1] at ep1; cases ep1
        have p2n : p ≠ nl1 := fun e => by rw [e, enl1] at ep1; cases ep1
        have eG1 : upd HF pl1 (.lst (ys1 ++ [.ref t0])) p = some (.tup [.ref q1, .ref nl1]) := by rw [upd_ne p1n]; exact sCF _ _ ep1
        have eG2 : upd HF pl1 (.lst (ys1 ++ [.ref t0])) nl1 = some (.lst ((crNums ps u ws ws.length).map V.int)) := by rw [upd_ne pne.symm]; exact sCF _ _ enl1
        have sG : Same HB (upd HF pl1 (.lst (ys1 ++ [.ref t0]))) := same_mut (sC.trans sCF) npl1
        have hG : Same (hid [pl1, nl1] HD) (hid [pl1, nl1] (upd HF pl1 (.lst (ys1 ++ [.ref t0])))) := by
          rw [hid_upd (by simp)]
          exact hid_mono (sE.trans sF)
        generalize upd HF pl1 (.lst (ys1 ++ [.ref t0])) = HG at eG1 eG2 sG hG ⊢
        clear sCF sE sF sD epl1 enl1 ep1 eq1 dys1 e0 nt0 d1
        wtm_at "s"
        refine k_tyL (by wtm_at "sq") ?_
        refine ⟨nl1, _, rfl, rfl, eG2, ?_⟩
        have sI : Same HB (upd HG nl1 (.lst [])) := same_mut sG nnl1
        have hI : Same (hid [pl1, nl1] HD) (hid [pl1, nl1] (upd HG nl1 (.lst []))) := by
          rw [hid_upd (by simp)]
          exact hG
        generalize upd HG nl1 (.lst []) = HI at sI hI ⊢
        clear hG sG eG1 eG2
        replace d2 := dp_same (hI.trans (hid_same _ _)) d2
        wtm_at "s"
        refine ⟨_, _, _, rfl, ps, ws, 0, rfl, by wtm_at "dp", ok, by wtm_at "dp", by omega, hokw, by decide, by omega, fun p3 HJ cr3 => ?_⟩
        have sJ := cr3.same
        obtain ⟨q3, pl3, nl3, ys3, np3, nq3, npl3, nnl3, pne3, ep3, eq3, epl3, dys3, enl3⟩ := cr3.ex
        have ln3 := crN_le ps 0 ws
        wtm_at "s"
        refine k_tyL (by wtm_at "sq") ?_
        wtm_at "s"
        refine k_append enl3 (by simp; omega) ?_
        have sK : Same HI (upd HJ nl3 (.lst ((crNums ps 0 ws ws.length).map V.int ++ [.int (-1)]))) := same_mut sJ nnl3
        generalize upd HJ nl3 (.lst ((crNums ps 0 ws ws.length).map V.int ++ [.int (-1)])) = HK at sK ⊢
        clear sJ ep3 eq3 epl3 dys3 enl3
        wtm_at "s"
        refine ⟨_, _, _, rfl, ps, ws, u, rfl, by wtm_at "dp", ok, by wtm_at "dp", by omega, hokw, u0, u1, fun p4 HL cr4 => ?_⟩
        have sL := cr4.same
        wtm_at "s"
        refine ⟨_, _, rfl, _, _, _, by omega, by omega, cr4.dp, by wtm_at "dp", fun HM sM => ?_⟩
        wtm_at "s"
        exact ⟨by wtm_at "sm", _, _, _, rfl⟩
      · rintro σ' HB ⟨sB, k9, k10, k11, rfl⟩
        exact ⟨tA, _, _, _, _, _, _, _, _, _, _, _, _, rfl, LA.same sB, htA⟩
    · wtm_at "s"
      refine k_it (fun c1 => ?_) (fun c1 => ?_)
      · wtm_at "s"
        refine lc_pdraws (i := 1) (m := (ps.length : Int) + 1) (fun _ => rfl) (fun _ => rfl) L9 (by omega) (fun x H' R sH hR => ?_) (by omega) (by omega) (by decide) (fun D us HA nD nD' LA SA eD hlu hus => ?_)
        · wtm_at "s"
          exact hR
        · refine k_gname ?_
          exact main _ _ ⟨us, D, _, rfl, LA, by omega, SA, by rw [hid_ne nD']; exact eD, by omega, fun u hu => by have := hus u hu; omega⟩
      · first | refine k_next ?_ | refine iteF (k_next ?_)
        refine main _ _ ⟨_, rp, _, rfl, L9, by omega, Same.refl _, e9, by simp; omega, fun u hu => ?_⟩
        obtain ⟨v, hv, rfl⟩ := List.mem_map.mp hu
        have := List.mem_range.mp hv
        omega
  · rintro σ' H2 ⟨t, k2, k3, k4, k5, k6, k7, k8, k9, k10, k11, k12, k13, rfl, L2, ht⟩
    wtm_at "s"
    exact q _
theorem ok_law (T : Txt K mg A) : FnOk P w K mg base CX0 7 A.a_law A.d_law ["_law_script"] (sp_law K) := by
  refine T.F_law.ok sc_law (fun vs H Q E h => by obtain ⟨a, ns, rfl, _⟩ := h; rfl) (fun cdv A0 outer s H vs Q E hr h => ?_)
  obtain ⟨a, ns, rfl, h⟩ := h
  exact ⟨t_law K, (pss_cons (ps_set (i := 1) sc_law.nd rfl (Or.inr rfl) (pe_call (ok_law_purse T) (hr.mono (by decide)) (by rfl) T.g_law_purse T.F_law_purse.kp T.b_law_purse .nil pass0 (pa_cons (pv 0) pa_nil)))
      (pss_cons (ps_for PassesOwn.never rfl (pi_range1 (by rfl) T.z_range (pa_cons pe_int pa_nil)) (pg_name (i := 2) sc_law.nd rfl (Or.inl rfl))
      (pss_cons (ps_set (i := 3) sc_law.nd rfl (Or.inr rfl) (pe_call (ok_law_tree T) (hr.mono (by decide)) (by rfl) T.g_law_tree T.F_law_tree.kp T.b_law_tree .nil pass0 (pa_cons (pv 1) pa_nil)))
      (pss_cons (ps_set (i := 4) sc_law.nd rfl (Or.inl rfl) (pe_call (ok_law_ways T) (hr.mono (by decide)) (by rfl) T.g_law_ways T.F_law_ways.kp T.b_law_ways .nil pass0 (pa_cons (pv 1) (pa_cons (pe_op op_add (pe_callB q_len (by rfl) T.z_len (by decide +kernel) (pa_cons (pv 3) pa_nil)) pe_int) (pa_cons pe_int pa_nil)))))
      (pss_cons (ps_set (i := 5) sc_law.nd rfl (Or.inl rfl) (pe_tup (pa_cons pe_str (pa_cons (pe_callTy q_listOf (by rfl) T.z_list (by decide +kernel) (pa_cons (pv 3) pa_nil)) pa_nil))))
      (pss_cons (ps_set (i := 6) sc_law.nd rfl (Or.inl rfl) (pe_callTy q_listOf (by rfl) T.z_list (by decide +kernel) (pa_cons (pv 4) pa_nil)))
      (pss_cons (ps_setLc (i := 7) (own := [("_law_way", 12)]) (by rfl) sc_law.nd rfl rfl (sw_true rfl rfl rfl (by decide +kernel)) (pi_list (pv 4)) (blkOk_by (own := [("_law_way", 12)]) (N := ["_law_script", "_law_purse_here", "_law_turn", "_law_parents", "_law_ways_here", "_law_net", "_law_handed", "_law_lain", "_law_places", "_law_place", "_law_found", "_law_due_here", "_law_way", "_law_k"]) (sc := defScope s_law) (by decide +kernel)) (fun _ _ _ _ _ => (pg_name (i := 12) sc_law.nd rfl (Or.inl rfl))) (fun _ _ _ _ _ => pts_nil) (fun _ _ _ _ _ => (pe_call (ok_law_ties T) (hr.mono (by decide)) (by rfl) T.g_law_ties T.F_law_ties.kp T.b_law_ties .nil pass0 (pa_cons (pv 3) (pa_cons (pv 12) pa_nil)))))
      (pss_cons (ps_set (i := 8) sc_law.nd rfl (Or.inl rfl) (pe_listRg (by rfl) (by rfl) T.z_list (prg_1 (by rfl) T.z_range (pe_op op_add (pe_callB q_len (by rfl) T.z_len (by decide +kernel) (pa_cons (pv 3) pa_nil)) pe_int))))
      (pss_cons (ps_if (pt_cmpR op_gt (pe_callB q_len (by rfl) T.z_len (by decide +kernel) (pa_cons (pv 8) pa_nil)) pe_int (nomark _)) (pss_one (ps_setLc (i := 8) (own := [("_law_k", 13)]) (by rfl) sc_law.nd rfl rfl (sw_true rfl rfl rfl (by decide +kernel)) (pi_range1 (by rfl) T.z_range (pa_cons pe_int pa_nil)) (blkOk_by (own := [("_law_k", 13)]) (N := ["_law_script", "_law_purse_here", "_law_turn", "_law_parents", "_law_ways_here", "_law_net", "_law_handed", "_law_lain", "_law_places", "_law_place", "_law_found", "_law_due_here", "_law_way", "_law_k"]) (sc := defScope s_law) (by decide +kernel)) (fun _ _ _ _ _ => (pg_name (i := 13) sc_law.nd rfl (Or.inl rfl))) (fun _ _ _ _ _ => pts_nil) (fun _ _ _ _ _ => (pe_call (ok_law_draw T) (hr.mono (by decide)) (by rfl) T.g_law_draw T.F_law_draw.kp T.b_law_draw .nil pass0 (pa_cons (pv 1) (pa_cons (pe_op op_add (pe_callB q_len (by rfl) T.z_len (by decide +kernel) (pa_cons (pv 3) pa_nil)) pe_int) pa_nil)))))) pss_nil)
      (pss_one (ps_for PassesOwn.never rfl (pi_list (pv 8)) (pg_name (i := 9) sc_law.nd rfl (Or.inl rfl))
      (pss_cons (ps_set (i := 10) sc_law.nd rfl (Or.inl rfl) (pe_call (ok_crossing_at T) (hr.mono (by decide)) (by rfl) T.g_crossing_at T.F_crossing_at.kp T.b_crossing_at .nil pass0 (pa_cons (pv 5) (pa_cons (pv 6) (pa_cons (pv 9) pa_nil)))))
      (pss_cons (ps_set (i := 11) sc_law.nd rfl (Or.inl rfl) (pe_call (ok_law_due T) (hr.mono (by decide)) (by rfl) T.g_law_due T.F_law_due.kp T.b_law_due .nil pass0 (pa_cons (pv 3) (pa_cons (pv 7) (pa_cons (pv 9) pa_nil)))))
      (pss_cons (ps_if (PW.pt (pw_or (pt_not (pt_val (pe_call (ok_law_same T) (hr.mono (by decide)) (by rfl) T.g_law_same T.F_law_same.kp T.b_law_same .nil pass0 (pa_cons (pv 10) (pa_cons (pv 11) pa_nil))))) (pw_or (pt_cmpR (op_neD hr.units) (pe_ix ix_tup (pv 5) pe_int (fun _ _ => rfl)) (pv 3) (nomark _)) (pw_or1 (pt_cmpR (op_neD hr.units) (pv 6) (pv 4) (nomark _)))))) (pss_one (ps_ret pe_bl)) pss_nil)
      (pss_cons (ps_expr (pe_bm PySem.F.plainAttrs_list PySem.F.slot_list_append PySem.F.type_list_append mt_append (pe_ix ix_tup (pe_ix ix_tup (pv 10) pe_int (fun _ _ => rfl)) pe_int (fun _ _ => rfl)) (pa_cons (pe_tup (pa_cons pe_int (pa_cons pe_int pa_nil))) pa_nil)))
      (pss_cons (ps_expr (pe_bm0 PySem.F.plainAttrs_list PySem.F.slot_list_clear PySem.F.type_list_clear mt_clear (pe_ix ix_tup (pv 10) pe_int (fun _ _ => rfl))))
      (pss_cons (ps_expr (pe_bm PySem.F.plainAttrs_list PySem.F.slot_list_append PySem.F.type_list_append mt_append (pe_ix ix_tup (pe_call (ok_crossing_at T) (hr.mono (by decide)) (by rfl) T.g_crossing_at T.F_crossing_at.kp T.b_crossing_at .nil pass0 (pa_cons (pv 5) (pa_cons (pv 6) (pa_cons pe_int pa_nil)))) pe_int (fun _ _ => rfl)) (pa_cons (pe_un un_neg pe_int) pa_nil)))
      (pss_one (ps_if (pt_not (pt_val (pe_call (ok_law_same T) (hr.mono (by decide)) (by rfl) T.g_law_same T.F_law_same.kp T.b_law_same .nil pass0 (pa_cons (pe_call (ok_crossing_at T) (hr.mono (by decide)) (by rfl) T.g_crossing_at T.F_crossing_at.kp T.b_crossing_at .nil pass0 (pa_cons (pv 5) (pa_cons (pv 6) (pa_cons (pv 9) pa_nil)))) (pa_cons (pv 11) pa_nil))))) (pss_one (ps_ret pe_bl)) pss_nil))))))))))))))))))
      (pss_one (ps_ret pe_bl)))), pure_law ⟨a, ns, rfl, h⟩⟩

theorem all_mk {l : PySem.W.OpenLaw} {w : World} {K : PySem.W.Frag} {h : Heap} {mg : Str → Option Value} {fa : Addr} {f0 f1 f2 f3 f4 f5 f6 f7 f8 f9 f10 f11 f12 f13 f14 f15 f16 f17 f18 f19 : Addr} (X : K.In h) (G : h.Ns mainGlobals mg) (hfa : mg "law" = some (.ref fa))
    {od0 an0 od1 an1 od2 an2 od3 an3 od4 an4 od5 an5 od6 an6 od7 an7 od8 an8 od9 an9 od10 an10 od11 an11 od12 an12 od13 an13 od14 an14 od15 an15 od16 an16 od17 an17 od18 an18 od19 an19 : Option Addr} {sl0 sl1 sl2 sl3 sl4 sl5 sl6 sl7 sl8 sl9 sl10 sl11 sl12 sl13 sl14 sl15 sl16 sl17 sl18 sl19 : Array (Option Value)} {oc0 kV0 dc0 pm0 cd0 ct0 oc1 kV1 dc1 pm1 cd1 ct1 oc2 kV2 dc2 pm2 cd2 ct2 oc3 kV3 dc3 pm3 cd3 ct3 oc4 kV4 dc4 pm4 cd4 ct4 oc5 kV5 dc5 pm5 cd5 ct5 oc6 kV6 dc6 pm6 cd6 ct6 oc7 kV7 dc7 pm7 cd7 ct7 oc8 kV8 dc8 pm8 cd8 ct8 oc9 kV9 dc9 pm9 cd9 ct9 oc10 kV10 dc10 pm10 cd10 ct10 oc11 kV11 dc11 pm11 cd11 ct11 oc12 kV12 dc12 pm12 cd12 ct12 oc13 kV13 dc13 pm13 cd13 ct13 oc14 kV14 dc14 pm14 cd14 ct14 oc15 kV15 dc15 pm15 cd15 ct15 oc16 kV16 dc16 pm16 cd16 ct16 oc17 kV17 dc17 pm17 cd17 ct17 oc18 kV18 dc18 pm18 cd18 ct18 oc19 kV19 dc19 pm19 cd19 ct19 : Value}
    {tk0 : Tok}
    (a0 : PySem.W.nsIn K mainGlobals "is_tree" = some (some (.ref f0))) (l0 : K.lookup f0 = some ⟨oc0, od0, .func (PySem.W.fnOf "is_tree" "is_tree" (defArgs s_is_tree) (defBody s_is_tree) (defScope s_is_tree) .none kV0 dc0 pm0 an0 cd0 ct0), sl0⟩) (c0 : PySem.W.codeIn K cd0 "is_tree" = true) (k0 : PySem.W.keepIn K (.ref f0) = true)
    (a1 : PySem.W.nsIn K mainGlobals "look_net" = some (some (.ref f1))) (l1 : K.lookup f1 = some ⟨oc1, od1, .func (PySem.W.fnOf "look_net" "look_net" (defArgs s_look_net) (defBody s_look_net) (defScope s_look_net) .none kV1 dc1 pm1 an1 cd1 ct1), sl1⟩) (c1 : PySem.W.codeIn K cd1 "look_net" = true) (k1 : PySem.W.keepIn K (.ref f1) = true)
    (a2 : PySem.W.nsIn K mainGlobals "must_be_kind" = some (some (.ref f2))) (l2 : K.lookup f2 = some ⟨oc2, od2, .func (PySem.W.fnOf "must_be_kind" "must_be_kind" (defArgs s_must_be_kind) (defBody s_must_be_kind) (defScope s_must_be_kind) .none kV2 dc2 pm2 an2 cd2 ct2), sl2⟩) (c2 : PySem.W.codeIn K cd2 "must_be_kind" = true) (k2 : PySem.W.keepIn K (.ref f2) = true)
    (a3 : PySem.W.nsIn K mainGlobals "places_of" = some (some (.ref f3))) (l3 : K.lookup f3 = some ⟨oc3, od3, .func (PySem.W.fnOf "places_of" "places_of" (defArgs s_places_of) (defBody s_places_of) (defScope s_places_of) .none kV3 dc3 pm3 an3 cd3 ct3), sl3⟩) (c3 : PySem.W.codeIn K cd3 "places_of" = true) (k3 : PySem.W.keepIn K (.ref f3) = true)
    (a4 : PySem.W.nsIn K mainGlobals "is_way" = some (some (.ref f4))) (l4 : K.lookup f4 = some ⟨oc4, od4, .func (PySem.W.fnOf "is_way" "is_way" (defArgs s_is_way) (defBody s_is_way) (defScope s_is_way) .none kV4 dc4 pm4 an4 cd4 ct4), sl4⟩) (c4 : PySem.W.codeIn K cd4 "is_way" = true) (k4 : PySem.W.keepIn K (.ref f4) = true)
    (a5 : PySem.W.nsIn K mainGlobals "ties_on" = some (some (.ref f5))) (l5 : K.lookup f5 = some ⟨oc5, od5, .func (PySem.W.fnOf "ties_on" "ties_on" (defArgs s_ties_on) (defBody s_ties_on) (defScope s_ties_on) .none kV5 dc5 pm5 an5 cd5 ct5), sl5⟩) (c5 : PySem.W.codeIn K cd5 "ties_on" = true) (k5 : PySem.W.keepIn K (.ref f5) = true)
    (a6 : PySem.W.nsIn K mainGlobals "must_be_ways" = some (some (.ref f6))) (l6 : K.lookup f6 = some ⟨oc6, od6, .func (PySem.W.fnOf "must_be_ways" "must_be_ways" (defArgs s_must_be_ways) (defBody s_must_be_ways) (defScope s_must_be_ways) .none kV6 dc6 pm6 an6 cd6 ct6), sl6⟩) (c6 : PySem.W.codeIn K cd6 "must_be_ways" = true) (k6 : PySem.W.keepIn K (.ref f6) = true)
    (a7 : PySem.W.nsIn K mainGlobals "ties_at" = some (some (.ref f7))) (l7 : K.lookup f7 = some ⟨oc7, od7, .func (PySem.W.fnOf "ties_at" "ties_at" (defArgs s_ties_at) (defBody s_ties_at) (defScope s_ties_at) .none kV7 dc7 pm7 an7 cd7 ct7), sl7⟩) (c7 : PySem.W.codeIn K cd7 "ties_at" = true) (k7 : PySem.W.keepIn K (.ref f7) = true)
    (a8 : PySem.W.nsIn K mainGlobals "crossing_of" = some (some (.ref f8))) (l8 : K.lookup f8 = some ⟨oc8, od8, .func (PySem.W.fnOf "crossing_of" "crossing_of" (defArgs s_crossing_of) (defBody s_crossing_of) (defScope s_crossing_of) .none kV8 dc8 pm8 an8 cd8 ct8), sl8⟩) (c8 : PySem.W.codeIn K cd8 "crossing_of" = true) (k8 : PySem.W.keepIn K (.ref f8) = true)
    (a9 : PySem.W.nsIn K mainGlobals "crossing_at" = some (some (.ref f9))) (l9 : K.lookup f9 = some ⟨oc9, od9, .func (PySem.W.fnOf "crossing_at" "crossing_at" (defArgs s_crossing_at) (defBody s_crossing_at) (defScope s_crossing_at) .none kV9 dc9 pm9 an9 cd9 ct9), sl9⟩) (c9 : PySem.W.codeIn K cd9 "crossing_at" = true) (k9 : PySem.W.keepIn K (.ref f9) = true)
    (a10 : PySem.W.nsIn K mainGlobals "_law_purse" = some (some (.ref f10))) (l10 : K.lookup f10 = some ⟨oc10, od10, .func (PySem.W.fnOf "_law_purse" "_law_purse" (defArgs s_law_purse) (defBody s_law_purse) (defScope s_law_purse) .none kV10 dc10 pm10 an10 cd10 ct10), sl10⟩) (c10 : PySem.W.codeIn K cd10 "_law_purse" = true) (k10 : PySem.W.keepIn K (.ref f10) = true)
    (a11 : PySem.W.nsIn K mainGlobals "_law_draw" = some (some (.ref f11))) (l11 : K.lookup f11 = some ⟨oc11, od11, .func (PySem.W.fnOf "_law_draw" "_law_draw" (defArgs s_law_draw) (defBody s_law_draw) (defScope s_law_draw) .none kV11 dc11 pm11 an11 cd11 ct11), sl11⟩) (c11 : PySem.W.codeIn K cd11 "_law_draw" = true) (k11 : PySem.W.keepIn K (.ref f11) = true)
    (a12 : PySem.W.nsIn K mainGlobals "_law_tree" = some (some (.ref f12))) (l12 : K.lookup f12 = some ⟨oc12, od12, .func (PySem.W.fnOf "_law_tree" "_law_tree" (defArgs s_law_tree) (defBody s_law_tree) (defScope s_law_tree) .none kV12 dc12 pm12 an12 cd12 ct12), sl12⟩) (c12 : PySem.W.codeIn K cd12 "_law_tree" = true) (k12 : PySem.W.keepIn K (.ref f12) = true)
    (a13 : PySem.W.nsIn K mainGlobals "_law_ways" = some (some (.ref f13))) (l13 : K.lookup f13 = some ⟨oc13, od13, .func (PySem.W.fnOf "_law_ways" "_law_ways" (defArgs s_law_ways) (defBody s_law_ways) (defScope s_law_ways) .none kV13 dc13 pm13 an13 cd13 ct13), sl13⟩) (c13 : PySem.W.codeIn K cd13 "_law_ways" = true) (k13 : PySem.W.keepIn K (.ref f13) = true)
    (a14 : PySem.W.nsIn K mainGlobals "_law_up" = some (some (.ref f14))) (l14 : K.lookup f14 = some ⟨oc14, od14, .func (PySem.W.fnOf "_law_up" "_law_up" (defArgs s_law_up) (defBody s_law_up) (defScope s_law_up) .none kV14 dc14 pm14 an14 cd14 ct14), sl14⟩) (c14 : PySem.W.codeIn K cd14 "_law_up" = true) (k14 : PySem.W.keepIn K (.ref f14) = true)
    (a15 : PySem.W.nsIn K mainGlobals "_law_ties" = some (some (.ref f15))) (l15 : K.lookup f15 = some ⟨oc15, od15, .func (PySem.W.fnOf "_law_ties" "_law_ties" (defArgs s_law_ties) (defBody s_law_ties) (defScope s_law_ties) .none kV15 dc15 pm15 an15 cd15 ct15), sl15⟩) (c15 : PySem.W.codeIn K cd15 "_law_ties" = true) (k15 : PySem.W.keepIn K (.ref f15) = true)
    (a16 : PySem.W.nsIn K mainGlobals "_law_due" = some (some (.ref f16))) (l16 : K.lookup f16 = some ⟨oc16, od16, .func (PySem.W.fnOf "_law_due" "_law_due" (defArgs s_law_due) (defBody s_law_due) (defScope s_law_due) .none kV16 dc16 pm16 an16 cd16 ct16), sl16⟩) (c16 : PySem.W.codeIn K cd16 "_law_due" = true) (k16 : PySem.W.keepIn K (.ref f16) = true)
    (a17 : PySem.W.nsIn K mainGlobals "_law_whole" = some (some (.ref f17))) (l17 : K.lookup f17 = some ⟨oc17, od17, .func (PySem.W.fnOf "_law_whole" "_law_whole" (defArgs s_law_whole) (defBody s_law_whole) (defScope s_law_whole) .none kV17 dc17 pm17 an17 cd17 ct17), sl17⟩) (c17 : PySem.W.codeIn K cd17 "_law_whole" = true) (k17 : PySem.W.keepIn K (.ref f17) = true)
    (a18 : PySem.W.nsIn K mainGlobals "_law_same" = some (some (.ref f18))) (l18 : K.lookup f18 = some ⟨oc18, od18, .func (PySem.W.fnOf "_law_same" "_law_same" (defArgs s_law_same) (defBody s_law_same) (defScope s_law_same) .none kV18 dc18 pm18 an18 cd18 ct18), sl18⟩) (c18 : PySem.W.codeIn K cd18 "_law_same" = true) (k18 : PySem.W.keepIn K (.ref f18) = true)
    (a19 : PySem.W.nsIn K mainGlobals "law" = some (some (.ref f19))) (l19 : K.lookup f19 = some ⟨oc19, od19, .func (PySem.W.fnOf "law" "law" (defArgs s_law) (defBody s_law) (defScope s_law) .none kV19 dc19 pm19 an19 cd19 ct19), sl19⟩) (c19 : PySem.W.codeIn K cd19 "law" = true) (k19 : PySem.W.keepIn K (.ref f19) = true)
    (e0 : PySem.W.nsIn K mainGlobals "MOST_PLACES" = some (some (.int 60 tk0)))
    (z0 : PySem.W.nsIn K mainGlobals "all" = some none)
    (z1 : PySem.W.nsIn K mainGlobals "bool" = some none)
    (z2 : PySem.W.nsIn K mainGlobals "int" = some none)
    (z3 : PySem.W.nsIn K mainGlobals "isinstance" = some none)
    (z4 : PySem.W.nsIn K mainGlobals "len" = some none)
    (z5 : PySem.W.nsIn K mainGlobals "list" = some none)
    (z6 : PySem.W.nsIn K mainGlobals "max" = some none)
    (z7 : PySem.W.nsIn K mainGlobals "min" = some none)
    (z8 : PySem.W.nsIn K mainGlobals "range" = some none)
    (z9 : PySem.W.nsIn K mainGlobals "sorted" = some none)
    (z10 : PySem.W.nsIn K mainGlobals "tuple" = some none)
    : ∃ fd : FuncData, (∀ (s : Shared) (v : Value), BindsTo s fd ⟨[v], []⟩ [("_law_script", v)]) ∧ ∀ base : Heap, K.In base → base.Ns mainGlobals mg → FnOk l.prog w K mg base CX0 7 fa fd ["_law_script"] (sp_law K) := by
  have e := hfa.symm.trans (PySem.W.mg_of X G a19)
  cases e
  have F0 := fun_mk (st := s_is_tree) l0 c0 k0
  have b0 := F0.binds (ps := ["parents"]) fun _ _ _ _ _ _ us hl => match us, hl with | [_], _ => rfl
  have F1 := fun_mk (st := s_look_net) l1 c1 k1
  have b1 := F1.binds (ps := ["net"]) fun _ _ _ _ _ _ us hl => match us, hl with | [_], _ => rfl
  have F2 := fun_mk (st := s_must_be_kind) l2 c2 k2
  have b2 := F2.binds (ps := ["net", "kind"]) fun _ _ _ _ _ _ us hl => match us, hl with | [_, _], _ => rfl
  have F3 := fun_mk (st := s_places_of) l3 c3 k3
  have b3 := F3.binds (ps := ["net"]) fun _ _ _ _ _ _ us hl => match us, hl with | [_], _ => rfl
  have F4 := fun_mk (st := s_is_way) l4 c4 k4
  have b4 := F4.binds (ps := ["net", "way"]) fun _ _ _ _ _ _ us hl => match us, hl with | [_, _], _ => rfl
  have F5 := fun_mk (st := s_ties_on) l5 c5 k5
  have b5 := F5.binds (ps := ["net", "way"]) fun _ _ _ _ _ _ us hl => match us, hl with | [_, _], _ => rfl
  have F6 := fun_mk (st := s_must_be_ways) l6 c6 k6
  have b6 := F6.binds (ps := ["net", "ways"]) fun _ _ _ _ _ _ us hl => match us, hl with | [_, _], _ => rfl
  have F7 := fun_mk (st := s_ties_at) l7 c7 k7
  have b7 := F7.binds (ps := ["net", "place"]) fun _ _ _ _ _ _ us hl => match us, hl with | [_, _], _ => rfl
  have F8 := fun_mk (st := s_crossing_of) l8 c8 k8
  have b8 := F8.binds (ps := ["net", "ways", "place"]) fun _ _ _ _ _ _ us hl => match us, hl with | [_, _, _], _ => rfl
  have F9 := fun_mk (st := s_crossing_at) l9 c9 k9
  have b9 := F9.binds (ps := ["net", "ways", "place"]) fun _ _ _ _ _ _ us hl => match us, hl with | [_, _, _], _ => rfl
  have F10 := fun_mk (st := s_law_purse) l10 c10 k10
  have b10 := F10.binds (ps := ["_law_script"]) fun _ _ _ _ _ _ us hl => match us, hl with | [_], _ => rfl
  have F11 := fun_mk (st := s_law_draw) l11 c11 k11
  have b11 := F11.binds (ps := ["_law_purse_here", "_law_out_of"]) fun _ _ _ _ _ _ us hl => match us, hl with | [_, _], _ => rfl
  have F12 := fun_mk (st := s_law_tree) l12 c12 k12
  have b12 := F12.binds (ps := ["_law_purse_here"]) fun _ _ _ _ _ _ us hl => match us, hl with | [_], _ => rfl
  have F13 := fun_mk (st := s_law_ways) l13 c13 k13
  have b13 := F13.binds (ps := ["_law_purse_here", "_law_places", "_law_most"]) fun _ _ _ _ _ _ us hl => match us, hl with | [_, _, _], _ => rfl
  have F14 := fun_mk (st := s_law_up) l14 c14 k14
  have b14 := F14.binds (ps := ["_law_parents", "_law_place"]) fun _ _ _ _ _ _ us hl => match us, hl with | [_, _], _ => rfl
  have F15 := fun_mk (st := s_law_ties) l15 c15 k15
  have b15 := F15.binds (ps := ["_law_parents", "_law_way"]) fun _ _ _ _ _ _ us hl => match us, hl with | [_, _], _ => rfl
  have F16 := fun_mk (st := s_law_due) l16 c16 k16
  have b16 := F16.binds (ps := ["_law_parents", "_law_lain", "_law_place"]) fun _ _ _ _ _ _ us hl => match us, hl with | [_, _, _], _ => rfl
  have F17 := fun_mk (st := s_law_whole) l17 c17 k17
  have b17 := F17.binds (ps := ["_law_found"]) fun _ _ _ _ _ _ us hl => match us, hl with | [_], _ => rfl
  have F18 := fun_mk (st := s_law_same) l18 c18 k18
  have b18 := F18.binds (ps := ["_law_found", "_law_due_here"]) fun _ _ _ _ _ _ us hl => match us, hl with | [_, _], _ => rfl
  have F19 := fun_mk (st := s_law) l19 c19 k19
  have b19 := F19.binds (ps := ["_law_script"]) fun _ _ _ _ _ _ us hl => match us, hl with | [_], _ => rfl
  have T : Txt K mg ⟨f0, _, f1, _, f2, _, f3, _, f4, _, f5, _, f6, _, f7, _, f8, _, f9, _, f10, _, f11, _, f12, _, f13, _, f14, _, f15, _, f16, _, f17, _, f18, _, fa, _⟩ :=
    ⟨PySem.W.mg_of X G a0, F0, b0, PySem.W.mg_of X G a1, F1, b1, PySem.W.mg_of X G a2, F2, b2, PySem.W.mg_of X G a3, F3, b3, PySem.W.mg_of X G a4, F4, b4, PySem.W.mg_of X G a5, F5, b5, PySem.W.mg_of X G a6, F6, b6, PySem.W.mg_of X G a7, F7, b7, PySem.W.mg_of X G a8, F8, b8, PySem.W.mg_of X G a9, F9, b9, PySem.W.mg_of X G a10, F10, b10, PySem.W.mg_of X G a11, F11, b11, PySem.W.mg_of X G a12, F12, b12, PySem.W.mg_of X G a13, F13, b13, PySem.W.mg_of X G a14, F14, b14, PySem.W.mg_of X G a15, F15, b15, PySem.W.mg_of X G a16, F16, b16, PySem.W.mg_of X G a17, F17, b17, PySem.W.mg_of X G a18, F18, b18, PySem.W.mg_of X G a19, F19, b19, tok_mk (PySem.W.mg_of X G e0), PySem.W.mg_none_of X G z0, PySem.W.mg_none_of X G z1, PySem.W.mg_none_of X G z2, PySem.W.mg_none_of X G z3, PySem.W.mg_none_of X G z4, PySem.W.mg_none_of X G z5, PySem.W.mg_none_of X G z6, PySem.W.mg_none_of X G z7, PySem.W.mg_none_of X G z8, PySem.W.mg_none_of X G z9, PySem.W.mg_none_of X G z10⟩
  exact ⟨_, fun s v => .of_eq rfl, fun base _ _ => ok_law T⟩
end Pf
open PySem PySem.W PyProof.Rows
set_option maxHeartbeats 0 in
theorem PySem.Challenge.cw_tiehues_k40_crossings_at_places_holds : PySem.Challenge.rw_tiehues_k40_crossings_at_places.Holds := by
  w_on; o_law; k_head; (case hw => w_witness2)
  k_fill
  refine L2.walk_ofK (l := PySem.Challenge.rw_tiehues_k40_crossings_at_places) (n := 63) (k := 7) (x := "_law_script") (CX := L2.CX0) (sp := Pf.sp_law) rfl (by decide) rfl ⟨rfl, by decide, by decide⟩ (fun w h Y => PySem.W.kIn_of Y) ?F (fun _ _ a ns hl _ hS => ⟨a, ns, rfl, hS, hl, fun _ => rfl⟩) (fun _ _ _ _ h => h)
  case F =>
    intro w mg fa h KX G hmg
    refine' Pf.all_mk KX G hmg ?a0 ?l0 ?c0 ?k0 ?a1 ?l1 ?c1 ?k1 ?a2 ?l2 ?c2 ?k2 ?a3 ?l3 ?c3 ?k3 ?a4 ?l4 ?c4 ?k4 ?a5 ?l5 ?c5 ?k5 ?a6 ?l6 ?c6 ?k6 ?a7 ?l7 ?c7 ?k7 ?a8 ?l8 ?c8 ?k8 ?a9 ?l9 ?c9 ?k9 ?a10 ?l10 ?c10 ?k10 ?a11 ?l11 ?c11 ?k11 ?a12 ?l12 ?c12 ?k12 ?a13 ?l13 ?c13 ?k13 ?a14 ?l14 ?c14 ?k14 ?a15 ?l15 ?c15 ?k15 ?a16 ?l16 ?c16 ?k16 ?a17 ?l17 ?c17 ?k17 ?a18 ?l18 ?c18 ?k18 ?a19 ?l19 ?c19 ?k19 ?e0 ?z0 ?z1 ?z2 ?z3 ?z4 ?z5 ?z6 ?z7 ?z8 ?z9 ?z10
    (case a0 => k_is); (case l0 => k_is); (case c0 => k_is); (case k0 => k_is); (case a1 => k_is); (case l1 => k_is); (case c1 => k_is); (case k1 => k_is); (case a2 => k_is); (case l2 => k_is); (case c2 => k_is); (case k2 => k_is); (case a3 => k_is); (case l3 => k_is); (case c3 => k_is); (case k3 => k_is); (case a4 => k_is); (case l4 => k_is); (case c4 => k_is); (case k4 => k_is); (case a5 => k_is); (case l5 => k_is); (case c5 => k_is); (case k5 => k_is); (case a6 => k_is); (case l6 => k_is); (case c6 => k_is); (case k6 => k_is); (case a7 => k_is); (case l7 => k_is); (case c7 => k_is); (case k7 => k_is); (case a8 => k_is); (case l8 => k_is); (case c8 => k_is); (case k8 => k_is); (case a9 => k_is); (case l9 => k_is); (case c9 => k_is); (case k9 => k_is); (case a10 => k_is); (case l10 => k_is); (case c10 => k_is); (case k10 => k_is); (case a11 => k_is); (case l11 => k_is); (case c11 => k_is); (case k11 => k_is); (case a12 => k_is); (case l12 => k_is); (case c12 => k_is); (case k12 => k_is); (case a13 => k_is); (case l13 => k_is); (case c13 => k_is); (case k13 => k_is); (case a14 => k_is); (case l14 => k_is); (case c14 => k_is); (case k14 => k_is); (case a15 => k_is); (case l15 => k_is); (case c15 => k_is); (case k15 => k_is); (case a16 => k_is); (case l16 => k_is); (case c16 => k_is); (case k16 => k_is); (case a17 => k_is); (case l17 => k_is); (case c17 => k_is); (case k17 => k_is); (case a18 => k_is); (case l18 => k_is); (case c18 => k_is); (case k18 => k_is); (case a19 => k_is); (case l19 => k_is); (case c19 => k_is); (case k19 => k_is); (case e0 => k_is); (case z0 => k_is); (case z1 => k_is); (case z2 => k_is); (case z3 => k_is); (case z4 => k_is); (case z5 => k_is); (case z6 => k_is); (case z7 => k_is); (case z8 => k_is); (case z9 => k_is); (case z10 => k_is)
