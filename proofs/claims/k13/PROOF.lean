import PyProof.Rows.All
import Wide.All
import OpenK.AllK
import Wide.FinOn
import HandS.ForMost
import HandS.NoneIn
import HandS.Conv
import HandS.IsInst
import HandS.Wide
import HandS.SortInts
import HandS.Walk
import KE.DataMinMax
import HandS.ForExc
import HandS.ExcInit
import KE.KExcIs
import HandS.ExcField
import HandS.ExcIs
import HandS.Text
import HandS.Zip
import HandS.Exc
import HandS.Sort
import HandS.Dict
import HandS.ExcOwn
import HandS.Style
import PySem.Challenge.RW_tiehues_k13_givers_refuse
set_option Elab.async false
set_option linter.all false
set_option maxRecDepth 100000
set_option maxHeartbeats 4000000
set_option synthInstance.maxHeartbeats 0
set_option synthInstance.maxSize 1000000
namespace Cm
open PySem PySem.Spec PyProof.Rows L2

/-! ### named readings -/
def rLen (K : PySem.W.Frag) : List V → Hp → VK → Prop := fun xs H Q => ∃ p ys, xs = [.ref p] ∧ (SqL K H p ys ∨ SqT K H p ys) ∧ Q (.int ys.length) H
theorem q_len {X : Cx} : CallR X (.builtin "len") (rLen X.K) := call_len_seq
def rListOf (K : PySem.W.Frag) : List V → Hp → VK → Prop := fun xs H Q => ∃ p ys, xs = [.ref p] ∧ (SqL K H p ys ∨ SqT K H p ys) ∧ ∀ l, H l = none → Q (.ref l) (upd H l (.lst ys))
theorem q_listOf {X : Cx} : CallR X (.type "list") (rListOf X.K) := call_list_of
def rMax2 : List V → Hp → VK → Prop := fun xs H Q => ∃ i j, xs = [.int i, .int j] ∧ Q (.int (if j > i then j else i)) H
theorem q_max2 {X : Cx} (hc : X.calm = true) : CallR X (.builtin "max") rMax2 := call_max2 hc
def rMin2 : List V → Hp → VK → Prop := fun xs H Q => ∃ i j, xs = [.int i, .int j] ∧ Q (.int (if j < i then j else i)) H
theorem q_min2 {X : Cx} (hc : X.calm = true) : CallR X (.builtin "min") rMin2 := call_min2 hc
theorem q_isi {X : Cx} : CallR X (.builtin "isinstance") (rIsi X.K) := call_isi
def rIntOf : List V → Hp → VK → Prop := fun xs H Q => (∃ i, xs = [.int i] ∧ Q (.int i) H) ∨ ∃ k, xs = [.bl k] ∧ Q (.int (if k then 1 else 0)) H
theorem q_intB {X : Cx} : CallR X (.type "int") rIntOf := call_int1
theorem q_intI {X : Cx} : CallR X (.type "int") rIntOf := call_int1

/-! ### operators by names -/
def xAdd : R2 := rI0 fun i j => .int (i + j)
def xSub : R2 := rI0 fun i j => .int (i - j)
def xMul : R2 := rI CMul fun i j => .int (i * j)
def xMulW : R2 := rI CMulW fun i j => .int (i * j)
def xDiv : R2 := rI CDiv fun i j => .int (i / j)
def xDivW : R2 := rI CDivW fun i j => .int (i / j)
def xMod : R2 := rI (fun _ j => 0 < j) fun i j => .int (i % j)
def xPow : R2 := rI CPow fun i j => .int (i ^ j.toNat)
def xLt : R2 := rI0 fun i j => .bl (decide (i < j))
def xLe : R2 := rI0 fun i j => .bl (decide (i ≤ j))
def xGt : R2 := rI0 fun i j => .bl (decide (j < i))
def xGe : R2 := rI0 fun i j => .bl (decide (j ≤ i))
def xNeg : V → Hp → VK → Prop := rU fun i => .int (-i)
def xIsN : R2 := fun x y H Q => y = .non ∧ Q (.bl (decide (x = .non))) H
def xNotN : R2 := fun x y H Q => y = .non ∧ Q (.bl (!decide (x = .non))) H
def xTru (K : PySem.W.Frag) (ta : TE) : TT := fun σ H Q => ta σ H fun x H' => ∃ k, TruV K x H' k ∧ Q k H'

/-! ### xs[i] += e -/
def rGetL (K : PySem.W.Frag) : V → V → Hp → VK → Prop := fun x y H Q => ∃ p xs i v, x = .ref p ∧ y = .int i ∧ SqL K H p xs ∧ 0 ≤ i ∧ atI xs i = some v ∧ Q v H
theorem get_list {X : Cx} : PGet X (rGetL X.K) := by
  intro pins s σ H x y v u Q I rx ry h
  obtain ⟨p, xs, i, z, rfl, rfl, hq, h0, he, q⟩ := h
  cases rx
  obtain ⟨t, rfl⟩ := ry
  obtain ⟨its, r, pl, hz⟩ := I.list hq
  obtain ⟨j, h1, h2, h3, h4, h5⟩ := atI_get he
  obtain ⟨w, ew, rw'⟩ := r.get h2
  have hl := r.length
  have hn := line63
  have fin : EP X pins σ Q w s := ⟨z, H, I, rw', q⟩
  have hj : i.toNat = j := by
    rw [seqIndex_of h0 h5] at h1
    exact Option.some.inj h1
  exact wpAny_getItem_list pl.isList h0 (by omega) (by rw [hj]; simpa using ew) fin
def xAugL (K : PySem.W.Frag) (to ti te : TE) : TS := tAugS to ti te (rGetL K) (ipI fun i j => i + j) rSetL
theorem q_augL {X : Cx} {o i e : Expr} {to ti te : TE} {tpos pos : Pos} (ho : PE X o to) (hi : PE X i ti) (he : PE X e te)
    (ha : ∀ ov iv new, augStore i ov iv new = (do holding [new, ov, iv] (setItem ov iv new); release [new, ov, iv] []; pure .next) := by intros; rfl) : PS X (.AugAssign (.Subscript o i tpos) .Add e pos) (xAugL X.K to ti te) :=
  ps_augS ho hi get_list he ip_add set_list ha

/-! ### constants of the module -/
def g_tok (mg : Str → Option Value) (x : Str) : Tok := match mg x with
  | some (.int _ t) => t
  | _ => default
theorem tok_mk {mg : Str → Option Value} {x : Str} {n : Int} {t : Tok} (h : mg x = some (.int n t)) : mg x = some (.int n (g_tok mg x)) := by
  unfold g_tok
  rw [h]

/-! ### heaps -/
theorem same_new {H : Hp} {p : Addr} {o : HO} (h : H p = none) : Same H (upd H p o) := fun b x e => by
  rw [upd_ne (ne_of_none e h)]
  exact e
theorem same_mut {H H' : Hp} {p : Addr} {o : HO} (e : Same H H') (h : H p = none) : Same H (upd H' p o) := fun a u ha => by
  rw [upd_ne (ne_of_none ha h)]
  exact e a u ha
theorem same_seqT {K : PySem.W.Frag} {H H' : Hp} {a : Addr} {xs : List V} (e : Same H H') (h : SqT K H a xs) : SqT K H' a xs := by
  rcases h with (h | ⟨o, h⟩) | h
  · exact .inl (.inl (e _ _ h))
  · exact .inl (.inr ⟨o, e _ _ h⟩)
  · exact .inr h
theorem sl {K : PySem.W.Frag} {H : Hp} {a : Addr} {xs : List V} (h : H a = some (.lst xs)) : SqL K H a xs := .inl (.inl h)
theorem stp {K : PySem.W.Frag} {H : Hp} {a : Addr} {xs : List V} (h : H a = some (.tup xs)) : SqT K H a xs := .inl (.inl h)
theorem sz {n : Nat} (h : n ≤ 100000) : n ≤ sizeLine := Nat.le_trans h (by decide)
theorem szl {n : Nat} (h : n < 100000) : n < sizeLine := Nat.lt_of_lt_of_le h (by decide)

/-! ### data -/
mutual
theorem dp_same {K : PySem.W.Frag} {H H' : Hp} (e : Same H H') : ∀ {v : V} {d : PyData}, Dp K H v d → Dp K H' v d
  | _, _, .non => .non
  | _, _, .bl b => .bl b
  | _, _, .int i => .int i
  | _, _, .str x => .str x
  | _, _, .lst s r => .lst (e.seq s) (dpa_same e r)
  | _, _, .tup s r => .tup (same_seqT e s) (dpa_same e r)
theorem dpa_same {K : PySem.W.Frag} {H H' : Hp} (e : Same H H') : ∀ {vs : List V} {ds : List PyData}, DpAll K H vs ds → DpAll K H' vs ds
  | _, _, .nil => .nil
  | _, _, .cons h r => .cons (dp_same e h) (dpa_same e r)
end
section
variable {K : PySem.W.Frag} {H : Hp}
theorem dp_int {v : V} {i : Int} (h : Dp K H v (.int i)) : v = .int i := by cases h; rfl
theorem dp_bool {v : V} {b : Bool} (h : Dp K H v (.bool b)) : v = .bl b := by cases h; rfl
theorem dp_str {v : V} {s : Str} (h : Dp K H v (.str s)) : v = .str s := by cases h; rfl
theorem dp_list {v : V} {ds : List PyData} (h : Dp K H v (.list ds)) : ∃ a xs, v = .ref a ∧ SqL K H a xs ∧ DpAll K H xs ds := by
  cases h with | lst s r => exact ⟨_, _, rfl, s, r⟩
theorem dp_tup {v : V} {ds : List PyData} (h : Dp K H v (.tuple ds)) : ∃ a xs, v = .ref a ∧ SqT K H a xs ∧ DpAll K H xs ds := by
  cases h with | tup s r => exact ⟨_, _, rfl, s, r⟩
theorem dp_tup2 {v : V} {c d : PyData} (h : Dp K H v (.tuple [c, d])) : ∃ a x y, v = .ref a ∧ SqT K H a [x, y] ∧ Dp K H x c ∧ Dp K H y d := by
  cases h with | tup s r =>
    cases r with | cons h1 r =>
      cases r with | cons h2 r =>
        cases r
        exact ⟨_, _, _, rfl, s, h1, h2⟩
theorem dp_pair {v : V} {a b : Int} (h : Dp K H v (.tuple [.int a, .int b])) : ∃ p, v = .ref p ∧ SqT K H p [.int a, .int b] := by
  obtain ⟨p, x, y, rfl, s, h1, h2⟩ := dp_tup2 h
  rw [dp_int h1, dp_int h2] at s
  exact ⟨p, rfl, s⟩
theorem dpa_ints : ∀ {ns : List Int} {vs : List V}, DpAll K H vs (ns.map PyData.int) → vs = ns.map V.int
  | [], _, h => by cases h; rfl
  | n :: r, _, h => by
    cases h with | cons h1 h2 => rw [dp_int h1, dpa_ints h2]; rfl
theorem dpa_of_ints : ∀ ns : List Int, DpAll K H (ns.map V.int) (ns.map PyData.int)
  | [] => .nil
  | n :: r => .cons (.int n) (dpa_of_ints r)
theorem dpa_len : ∀ {vs : List V} {ds : List PyData}, DpAll K H vs ds → vs.length = ds.length
  | _, _, .nil => rfl
  | _, _, .cons _ r => by simp [dpa_len r]
theorem dpa_get : ∀ {vs : List V} {ds : List PyData} {i : Nat} {v : V}, DpAll K H vs ds → vs[i]? = some v → ∃ d, ds[i]? = some d ∧ Dp K H v d
  | _, _, _, _, .nil, e => by simp at e
  | _, _, 0, _, .cons h _, e => by simp at e; subst e; exact ⟨_, rfl, h⟩
  | _, _, i + 1, _, .cons _ r, e => by
    obtain ⟨d, h1, h2⟩ := dpa_get (i := i) r (by simpa using e)
    exact ⟨d, by simpa using h1, h2⟩
theorem dpa_get2 : ∀ {vs : List V} {ds : List PyData} {i : Nat} {d : PyData}, DpAll K H vs ds → ds[i]? = some d → ∃ v, vs[i]? = some v ∧ Dp K H v d
  | _, _, _, _, .nil, e => by simp at e
  | _, _, 0, _, .cons h _, e => by simp at e; subst e; exact ⟨_, rfl, h⟩
  | _, _, i + 1, _, .cons _ r, e => by
    obtain ⟨d, h1, h2⟩ := dpa_get2 (i := i) r (by simpa using e)
    exact ⟨d, by simpa using h1, h2⟩
theorem dpa_app {vs ws : List V} {ds es : List PyData} : DpAll K H vs ds → DpAll K H ws es → DpAll K H (vs ++ ws) (ds ++ es)
  | .nil, r => r
  | .cons h t, r => .cons h (dpa_app t r)
/-- a list of ints -/
abbrev dInts (ns : List Int) : PyData := .list (ns.map PyData.int)
theorem dp_ints {v : V} {ns : List Int} (h : Dp K H v (dInts ns)) : ∃ a, v = .ref a ∧ SqL K H a (ns.map V.int) := by
  obtain ⟨a, xs, rfl, s, r⟩ := dp_list h
  rw [dpa_ints r] at s
  exact ⟨a, rfl, s⟩
theorem dp_of_ints {a : Addr} {ns : List Int} (h : SqL K H a (ns.map V.int)) : Dp K H (.ref a) (dInts ns) := .lst h (dpa_of_ints ns)
/-- a pair of ints -/
abbrev dPair (p : Int × Int) : PyData := .tuple [.int p.1, .int p.2]
theorem dp_of_pair {a : Addr} {x y : Int} (h : SqT K H a [.int x, .int y]) : Dp K H (.ref a) (dPair (x, y)) := .tup h (.cons (.int x) (.cons (.int y) .nil))
abbrev dPairs (ps : List (Int × Int)) : PyData := .list (ps.map dPair)
end

theorem dpairs_get {K : PySem.W.Frag} {H : Hp} {xs : List V} {ps : List (Int × Int)} {i : Nat} {x : V} (hxs : DpAll K H xs (ps.map dPair)) (hx : xs[i]? = some x) : ∃ p c, ps[i]? = some p ∧ x = .ref c ∧ SqT K H c [.int p.1, .int p.2] := by
  obtain ⟨d, hd, hdx⟩ := dpa_get hxs hx
  rw [List.getElem?_map] at hd
  obtain ⟨p, hp, rfl⟩ := Option.map_eq_some_iff.mp hd
  obtain ⟨c, rfl, hcs⟩ := dp_pair hdx
  exact ⟨p, c, hp, rfl, hcs⟩
/-- data that may be compared: no dicts, at most n deep -/
def Sh (n : Nat) (d : PyData) : Prop := d.canLay0 = true ∧ d.depth ≤ n
theorem Sh.shaped {n : Nat} {d : PyData} (h : Sh n d) (hn : n ≤ 64) : SeqAt.shaped d = true := by
  unfold SeqAt.shaped
  rw [h.1, decide_eq_true (Nat.le_trans h.2 hn)]; rfl
theorem Sh.mono {n m : Nat} {d : PyData} (h : Sh n d) (hn : n ≤ m) : Sh m d := ⟨h.1, Nat.le_trans h.2 hn⟩
theorem sh_int {n : Nat} {i : Int} : Sh n (.int i) := ⟨rfl, Nat.zero_le _⟩
theorem sh_bool {n : Nat} {b : Bool} : Sh n (.bool b) := ⟨rfl, Nat.zero_le _⟩
theorem sh_none {n : Nat} : Sh n .none := ⟨rfl, Nat.zero_le _⟩
theorem sh_all {n : Nat} : ∀ {ds : List PyData}, (∀ d ∈ ds, Sh n d) → PyData.canLayAll0 ds = true ∧ PyData.depthAll ds ≤ n
  | [], _ => ⟨rfl, Nat.zero_le _⟩
  | d :: r, h => by
    obtain ⟨h1, h2⟩ := sh_all (ds := r) fun x hx => h x (List.mem_cons_of_mem _ hx)
    obtain ⟨h3, h4⟩ := h d List.mem_cons_self
    refine ⟨?_, ?_⟩
    · show (PyData.canLay0 d && PyData.canLayAll0 r) = true
      rw [h3, h1]; rfl
    · show max d.depth (PyData.depthAll r) ≤ n
      omega
theorem sh_list {n : Nat} {ds : List PyData} (h : ∀ d ∈ ds, Sh n d) : Sh (n + 1) (.list ds) := by
  obtain ⟨h1, h2⟩ := sh_all h
  exact ⟨h1, by show PyData.depthAll ds + 1 ≤ n + 1; omega⟩
theorem sh_tup {n : Nat} {ds : List PyData} (h : ∀ d ∈ ds, Sh n d) : Sh (n + 1) (.tuple ds) := by
  obtain ⟨h1, h2⟩ := sh_all h
  exact ⟨h1, by show PyData.depthAll ds + 1 ≤ n + 1; omega⟩
theorem sh_ints {n : Nat} (ns : List Int) : Sh (n + 1) (dInts ns) := sh_list fun d hd => by
  obtain ⟨i, _, rfl⟩ := List.mem_map.mp hd
  exact sh_int
theorem sh_pair {n : Nat} (p : Int × Int) : Sh (n + 1) (dPair p) := sh_tup fun d hd => by
  rcases List.mem_cons.mp hd with rfl | hd
  · exact sh_int
  · rcases List.mem_cons.mp hd with rfl | hd
    · exact sh_int
    · cases hd
theorem sh_pairs {n : Nat} (ps : List (Int × Int)) : Sh (n + 2) (dPairs ps) := sh_list fun d hd => by
  obtain ⟨p, _, rfl⟩ := List.mem_map.mp hd
  exact sh_pair p
theorem sh_two {n : Nat} {c d : PyData} (h1 : Sh n c) (h2 : Sh n d) : Sh (n + 1) (.tuple [c, d]) := sh_tup fun x hx => by
  rcases List.mem_cons.mp hx with rfl | hx
  · exact h1
  · rcases List.mem_cons.mp hx with rfl | hx
    · exact h2
    · cases hx
theorem Sh.refl {n : Nat} {d : PyData} (h : Sh n d) : PyData.eqv d d = true := SeqAt.eqv_refl d h.1
theorem ff_iff {P : Prop} (h : ¬ P) : false = true ↔ P := ⟨fun z => (nomatch z), fun z => (h z).elim⟩
theorem tt_iff {P : Prop} (h : P) : true = true ↔ P := ⟨fun _ => h, fun _ => rfl⟩

theorem ixN_of {n : Nat} {i : Int} (h0 : 0 ≤ i) (h1 : i < n) : ixN n i = some i.toNat := by unfold ixN; rw [if_pos h0, if_pos h1]
theorem map_erase (ns : List Int) (i : Nat) : (ns.map V.int).eraseIdx i = (ns.eraseIdx i).map V.int := by
  induction ns generalizing i with
  | nil => rfl
  | cons x r ih => cases i with
    | zero => rfl
    | succ i => show V.int x :: (r.map V.int).eraseIdx i = _; rw [ih]; rfl
theorem erase_perm {α : Type} (l : List α) (i : Nat) (h : i < l.length) : (l[i] :: l.eraseIdx i).Perm l := by
  induction l generalizing i with
  | nil => exact absurd h (by simp)
  | cons x r ih => cases i with
    | zero => exact List.Perm.refl _
    | succ i =>
      have h' : i < r.length := by simpa using h
      show (r[i] :: x :: r.eraseIdx i).Perm (x :: r)
      exact (List.Perm.swap _ _ _).trans ((ih i h').cons x)
theorem getD_memI {ns : List Int} {i : Int} (h0 : 0 ≤ i) (h1 : i < ns.length) : ns.getD i.toNat 0 ∈ ns := by
  have h : i.toNat < ns.length := by omega
  rw [List.getD_eq_getElem?_getD, List.getElem?_eq_getElem h]
  exact List.getElem_mem h
theorem not_in2 {p a b : Addr} (h1 : p ≠ a) (h2 : p ≠ b) : p ∉ [a, b] := by
  intro z
  rcases List.mem_cons.mp z with z | z
  · exact h1 z
  · rcases List.mem_cons.mp z with z | z
    · exact h2 z
    · cases z

/-! ### readings, step by step -/
section
variable {K : PySem.W.Frag} {σ : L2.St} {H : Hp} {D : Ends} {Q : VK} {ta tb te : TE} {t u : TT} {s1 s2 : TS} {QT : Bool → Hp → Prop} {QA : List V → Hp → Prop} {tr : TA} {QS : L2.St → Hp → Prop}
theorem k_seq {nx : L2.St → Hp → Prop} {rt : VK} {bk ct : L2.St → Hp → Prop} (h : s1 ⟨s2 ⟨nx, rt, bk, ct⟩, rt, bk, ct⟩ σ H) : tSeq s1 s2 ⟨nx, rt, bk, ct⟩ σ H := h
theorem k_nx {nx : L2.St → Hp → Prop} {rt : VK} {bk ct : L2.St → Hp → Prop} (h : nx σ H) : Ends.nx ⟨nx, rt, bk, ct⟩ σ H := h
theorem k_next {nx : L2.St → Hp → Prop} {rt : VK} {bk ct : L2.St → Hp → Prop} (h : nx σ H) : tNext ⟨nx, rt, bk, ct⟩ σ H := h
theorem k_cont {nx : L2.St → Hp → Prop} {rt : VK} {bk ct : L2.St → Hp → Prop} (h : ct σ H) : tCont ⟨nx, rt, bk, ct⟩ σ H := h
theorem k_brk {nx : L2.St → Hp → Prop} {rt : VK} {bk ct : L2.St → Hp → Prop} (h : bk σ H) : tBreak ⟨nx, rt, bk, ct⟩ σ H := h
theorem k_set {nx : L2.St → Hp → Prop} {rt : VK} {bk ct : L2.St → Hp → Prop} {i : Nat} (h : te σ H fun x H1 => nx (σ.set i (some x)) H1) : tAsg te (gName i) ⟨nx, rt, bk, ct⟩ σ H := h
theorem k_asg {nx : L2.St → Hp → Prop} {rt : VK} {bk ct : L2.St → Hp → Prop} {g : TG} (h : te σ H fun x H1 => g x σ H1 nx) : tAsg te g ⟨nx, rt, bk, ct⟩ σ H := h
theorem k_drop {nx : L2.St → Hp → Prop} {rt : VK} {bk ct : L2.St → Hp → Prop} (h : te σ H fun _ H1 => nx σ H1) : tDrop te ⟨nx, rt, bk, ct⟩ σ H := h
theorem k_ret {nx : L2.St → Hp → Prop} {rt : VK} {bk ct : L2.St → Hp → Prop} (h : te σ H rt) : tRet te ⟨nx, rt, bk, ct⟩ σ H := h
theorem k_retN {nx : L2.St → Hp → Prop} {rt : VK} {bk ct : L2.St → Hp → Prop} (h : rt .non H) : tRetN ⟨nx, rt, bk, ct⟩ σ H := h
theorem k_aug {nx : L2.St → Hp → Prop} {rt : VK} {bk ct : L2.St → Hp → Prop} {i : Nat} {f : Int → Int → Int} {a : Int} (e : σ[i]? = some (some (.int a))) (h : te σ H fun y H1 => ipI f (.int a) y H1 fun z H2 => nx (σ.set i (some z)) H2) : tAug i te (ipI f) ⟨nx, rt, bk, ct⟩ σ H := ⟨_, e, h⟩
theorem k_augL {nx : L2.St → Hp → Prop} {rt : VK} {bk ct : L2.St → Hp → Prop} {to ti : TE} (h : to σ H fun o H1 => ti σ H1 fun i H2 => rGetL K o i H2 fun x H3 => te σ H3 fun y H4 => ipI (fun i j => i + j) x y H4 fun z H5 => rSetL o i z H5 fun H6 => nx σ H6) : xAugL K to ti te ⟨nx, rt, bk, ct⟩ σ H := h
theorem k_ipI {f : Int → Int → Int} {a b : Int} (h : Q (.int (f a b)) H) : ipI f (.int a) (.int b) H Q := ⟨a, b, rfl, rfl, h⟩
theorem k_if (h : t σ H fun b H1 => if b = true then s1 D σ H1 else s2 D σ H1) : tIfS t s1 s2 D σ H := h
theorem k_var {i : Nat} {v : V} (e : σ[i]? = some (some v)) (h : Q v H) : tVar i σ H Q := ⟨v, e, h⟩
theorem k_c {v : V} (h : Q v H) : tC v σ H Q := h
theorem k_op {r : R2} (h : ta σ H fun x H1 => tb σ H1 fun y H2 => r x y H2 Q) : tOp r ta tb σ H Q := h
theorem k_un {r : V → Hp → VK → Prop} (h : ta σ H fun x H1 => r x H1 Q) : tUn r ta σ H Q := h
theorem k_I0 {g : Int → Int → V} {i j : Int} (h : Q (g i j) H) : rI0 g (.int i) (.int j) H Q := ⟨i, j, rfl, rfl, h⟩
theorem k_I {C : Int → Int → Prop} {g : Int → Int → V} {i j : Int} (hc : C i j) (h : Q (g i j) H) : rI C g (.int i) (.int j) H Q := ⟨i, j, rfl, rfl, hc, h⟩
theorem k_add {i j : Int} (h : Q (.int (i + j)) H) : xAdd (.int i) (.int j) H Q := ⟨i, j, rfl, rfl, h⟩
theorem k_sub {i j : Int} (h : Q (.int (i - j)) H) : xSub (.int i) (.int j) H Q := ⟨i, j, rfl, rfl, h⟩
theorem k_mul {i j : Int} (hc : CMul i j) (h : Q (.int (i * j)) H) : xMul (.int i) (.int j) H Q := ⟨i, j, rfl, rfl, hc, h⟩
theorem k_mulW {i j : Int} (hc : CMulW i j) (h : Q (.int (i * j)) H) : xMulW (.int i) (.int j) H Q := ⟨i, j, rfl, rfl, hc, h⟩
theorem k_div {i j : Int} (hc : CDiv i j) (h : Q (.int (i / j)) H) : xDiv (.int i) (.int j) H Q := ⟨i, j, rfl, rfl, hc, h⟩
theorem k_divW {i j : Int} (hc : CDivW i j) (h : Q (.int (i / j)) H) : xDivW (.int i) (.int j) H Q := ⟨i, j, rfl, rfl, hc, h⟩
theorem k_mod {i j : Int} (hc : 0 < j) (h : Q (.int (i % j)) H) : xMod (.int i) (.int j) H Q := ⟨i, j, rfl, rfl, hc, h⟩
theorem k_pow {i j : Int} (hc : CPow i j) (h : Q (.int (i ^ j.toNat)) H) : xPow (.int i) (.int j) H Q := ⟨i, j, rfl, rfl, hc, h⟩
theorem k_lt {i j : Int} (h : Q (.bl (decide (i < j))) H) : xLt (.int i) (.int j) H Q := ⟨i, j, rfl, rfl, h⟩
theorem k_le {i j : Int} (h : Q (.bl (decide (i ≤ j))) H) : xLe (.int i) (.int j) H Q := ⟨i, j, rfl, rfl, h⟩
theorem k_gt {i j : Int} (h : Q (.bl (decide (j < i))) H) : xGt (.int i) (.int j) H Q := ⟨i, j, rfl, rfl, h⟩
theorem k_ge {i j : Int} (h : Q (.bl (decide (j ≤ i))) H) : xGe (.int i) (.int j) H Q := ⟨i, j, rfl, rfl, h⟩
theorem k_neg {i : Int} (h : Q (.int (-i)) H) : xNeg (.int i) H Q := ⟨i, rfl, h⟩
theorem k_U {g : Int → V} {i : Int} (h : Q (g i) H) : rU g (.int i) H Q := ⟨i, rfl, h⟩
theorem k_eqI {i j : Int} (h : Q (.bl (decide (i = j))) H) : rEq (.int i) (.int j) H Q := ⟨rfl, by
  have e : decide (V.int i = V.int j) = decide (i = j) := by
    by_cases c : i = j
    · rw [decide_eq_true c, decide_eq_true (by rw [c])]
    · rw [decide_eq_false c, decide_eq_false (fun z => c (V.int.inj z))]
  rw [e]; exact h⟩
theorem k_neI {i j : Int} (h : Q (.bl (!decide (i = j))) H) : rNe (.int i) (.int j) H Q := ⟨rfl, by
  have e : decide (V.int i = V.int j) = decide (i = j) := by
    by_cases c : i = j
    · rw [decide_eq_true c, decide_eq_true (by rw [c])]
    · rw [decide_eq_false c, decide_eq_false (fun z => c (V.int.inj z))]
  rw [e]; exact h⟩
theorem k_test (h : te σ H fun x H1 => ∃ k, x = .bl k ∧ QT k H1) : tTest te σ H QT := h
theorem k_B (h : te σ H fun x H1 => ∃ k, x = .bl k ∧ QT k H1) : tB te σ H QT := h
theorem k_bl {b : Bool} {R : Bool → Prop} (h : R b) : ∃ k, V.bl b = .bl k ∧ R k := ⟨b, rfl, h⟩
theorem k_and (h : t σ H fun c H1 => if c = true then u σ H1 QT else QT false H1) : tAnd t u σ H QT := h
theorem k_or (h : t σ H fun c H1 => if c = true then QT true H1 else u σ H1 QT) : tOr t u σ H QT := h
theorem k_not (h : t σ H fun c H1 => QT (!c) H1) : tNot t σ H QT := h
theorem k_notV (h : ta σ H fun x H1 => ∃ c, x = .bl c ∧ Q (.bl (!c)) H1) : tNotV ta σ H Q := h
theorem k_andV (h : ta σ H fun x H1 => ∃ c, x = .bl c ∧ if c = true then tb σ H1 Q else Q (.bl false) H1) : tAndV ta tb σ H Q := h
theorem k_orV (h : ta σ H fun x H1 => ∃ c, x = .bl c ∧ if c = true then Q (.bl true) H1 else tb σ H1 Q) : tOrV ta tb σ H Q := h
theorem k_cb {r : List V → Hp → VK → Prop} (h : tr σ H fun vs H1 => r vs H1 Q) : tCB r tr σ H Q := h
theorem k_nil (h : QA [] H) : tNil σ H QA := h
theorem k_cons (h : ta σ H fun x H1 => tr σ H1 fun xs H2 => QA (x :: xs) H2) : tCons ta tr σ H QA := h
theorem k_call {sp : Sp} {dvs : List V} {E : XK} (h : tr σ H fun vs H1 => sp (vs ++ dvs) H1 Q E) : tCall sp dvs E tr σ H Q := h
theorem k_len {p : Addr} {ys : List V} (hs : SqL K H p ys) (h : Q (.int ys.length) H) : rLen K [.ref p] H Q := ⟨p, ys, rfl, .inl hs, h⟩
theorem k_len0 {p : Addr} (hs : H p = some (.lst [])) (h : Q (.int 0) H) : rLen K [.ref p] H Q := ⟨p, [], rfl, .inl (sl hs), h⟩
theorem k_lenT {p : Addr} {ys : List V} (hs : SqT K H p ys) (h : Q (.int ys.length) H) : rLen K [.ref p] H Q := ⟨p, ys, rfl, .inr hs, h⟩
theorem k_lenI {p : Addr} {ns : List Int} (hs : SqL K H p (ns.map V.int)) (h : Q (.int ns.length) H) : rLen K [.ref p] H Q := ⟨p, _, rfl, .inl hs, by rw [List.length_map]; exact h⟩
theorem k_list {p : Addr} {ys : List V} (hs : SqL K H p ys) (h : ∀ l, H l = none → Q (.ref l) (upd H l (.lst ys))) : rListOf K [.ref p] H Q := ⟨p, ys, rfl, .inl hs, h⟩
theorem k_lst (h : tr σ H fun xs H1 => xs.length ≤ sizeLine ∧ ∀ p, H1 p = none → Q (.ref p) (upd H1 p (.lst xs))) : tLst tr σ H Q := h
theorem k_tup (h : tr σ H fun xs H1 => xs.length ≤ sizeLine ∧ ∀ p, H1 p = none → Q (.ref p) (upd H1 p (.tup xs))) : tTup tr σ H Q := h
theorem k_new {xs : List V} {R : Addr → Prop} (hn : xs.length ≤ 100000) (h : ∀ p, H p = none → R p) : xs.length ≤ sizeLine ∧ ∀ p, H p = none → R p := ⟨sz hn, h⟩
theorem k_gtup {n : Nat} {g : TGs} {a : Addr} {xs : List V} (hs : SqT K H a xs) (hn : xs.length = n) (h : g xs σ H QS) : gTup K n g (.ref a) σ H QS := ⟨a, xs, rfl, hs, hn, h⟩
theorem k_gunl {n : Nat} {g : TGs} {a : Addr} {xs : List V} (hs : SqL K H a xs) (hn : xs.length = n) (h : g xs σ H QS) : gUnl K n g (.ref a) σ H QS := ⟨a, xs, rfl, hs, hn, h⟩
theorem k_gcons {g : TG} {gs : TGs} {v : V} {r : List V} (h : g v σ H fun σ' H' => gs r σ' H' QS) : gCons g gs (v :: r) σ H QS := ⟨v, r, rfl, h⟩
theorem k_gnil (h : QS σ H) : gNil [] σ H QS := ⟨rfl, h⟩
theorem k_gname {i : Nat} {v : V} (h : QS (σ.set i (some v)) H) : gName i v σ H QS := h
theorem k_gsub {to ti : TE} {ts : TSet} {v : V} (h : to σ H fun o H1 => ti σ H1 fun i H2 => ts o i v H2 fun H3 => QS σ H3) : gSub to ti ts v σ H QS := h
theorem k_setL {p : Addr} {xs : List V} {k : Int} {j : Nat} {v : V} {QH : Hp → Prop} (hp : H p = some (.lst xs)) (hj : ixN xs.length k = some j) (h : QH (upd H p (.lst (xs.set j v)))) : rSetL (.ref p) (.int k) v H QH := ⟨p, xs, k, j, rfl, rfl, hp, hj, h⟩
theorem k_ixL {p : Addr} {xs : List V} {i : Int} {v : V} (hs : SqL K H p xs) (ha : atI xs i = some v) (h : Q v H) : rIxL K (.ref p) (.int i) H Q := ⟨p, xs, i, v, rfl, rfl, hs, ha, h⟩
theorem k_ixT {p : Addr} {xs : List V} {i : Int} {v : V} (hs : SqT K H p xs) (ha : atI xs i = some v) (h : Q v H) : rIxT K (.ref p) (.int i) H Q := ⟨p, xs, i, v, rfl, rfl, hs, ha, h⟩
theorem k_min {p : Addr} {ns : List Int} (hs : SqL K H p (ns.map V.int)) (h0 : 0 < ns.length) (h : ∀ m, m ∈ ns → (∀ y, y ∈ ns → m ≤ y) → Q (.int m) H) : rMin K [.ref p] H Q := ⟨p, ns, rfl, hs, h0, h⟩
theorem k_max {p : Addr} {ns : List Int} (hs : SqL K H p (ns.map V.int)) (h0 : 0 < ns.length) (h : ∀ m, m ∈ ns → (∀ y, y ∈ ns → y ≤ m) → Q (.int m) H) : rMax K [.ref p] H Q := ⟨p, ns, rfl, hs, h0, h⟩
theorem k_popI {p : Addr} {ns : List Int} {i : Int} (hp : H p = some (.lst (ns.map V.int))) (h0 : 0 ≤ i) (h1 : i < ns.length) (h2 : i < 1000000) (h : Q (.int (ns.getD i.toNat 0)) (upd H p (.lst ((ns.eraseIdx i.toNat).map V.int)))) : rPopAt (.ref p) [.int i] H Q := by
  refine ⟨p, _, i, i.toNat, .int (ns.getD i.toNat 0), rfl, rfl, hp, by omega, by omega, ?_, ?_, ?_⟩
  · exact (ixN_seq (ixN_of h0 (by rw [List.length_map]; exact h1))).1
  · have hh : i.toNat < ns.length := by omega
    rw [List.getElem?_map, List.getElem?_eq_getElem hh]
    simp [List.getD_eq_getElem?_getD, List.getElem?_eq_getElem hh]
  · have e : (ns.map V.int).eraseIdx i.toNat = (ns.eraseIdx i.toNat).map V.int := map_erase ns _
    rw [e]; exact h
theorem k_sortedI {a : Addr} {ns : List Int} (hs : SqL K H a (ns.map V.int)) (h : ∀ (ns' : List Int) (p : Addr), ns'.Perm ns → ns'.Pairwise (· ≤ ·) → H p = none → Q (.ref p) (upd H p (.lst (ns'.map V.int)))) : rSortedI K [.ref a] H Q := ⟨a, ns, rfl, hs, h⟩
theorem k_max2 {i j : Int} (h : Q (.int (if j > i then j else i)) H) : rMax2 [.int i, .int j] H Q := ⟨i, j, rfl, h⟩
theorem k_min2 {i j : Int} (h : Q (.int (if j < i then j else i)) H) : rMin2 [.int i, .int j] H Q := ⟨i, j, rfl, h⟩
theorem k_bm {T : String} {r : V → List V → Hp → VK → Prop} (h : ta σ H fun x H1 => tyV K T x H1 ∧ tr σ H1 fun xs H2 => r x xs H2 Q) : tBM K T r ta tr σ H Q := h
theorem k_bm0 {T : String} {r : V → List V → Hp → VK → Prop} (h : ta σ H fun x H1 => tyV K T x H1 ∧ r x [] H1 Q) : tBM0 K T r ta σ H Q := h
theorem k_cat {p q : Addr} {xs ys : List V} (hp : H p = some (.lst xs)) (hq : H q = some (.lst ys)) (hz : xs.length + ys.length ≤ 100000) (h : ∀ l, H l = none → Q (.ref l) (upd H l (.lst (xs ++ ys)))) : rCat (.ref p) (.ref q) H Q := ⟨p, q, xs, ys, rfl, rfl, hp, hq, sz hz, h⟩
theorem k_tyL {p : Addr} {xs : List V} {R : Prop} (hp : SqL K H p xs) (h : R) : tyV K "list" (.ref p) H ∧ R := ⟨.inl ⟨rfl, _, hp⟩, h⟩
theorem k_append {p : Addr} {xs : List V} {y : V} (hp : H p = some (.lst xs)) (hn : xs.length < 100000) (h : Q .non (upd H p (.lst (xs ++ [y])))) : rAppend (.ref p) [y] H Q := ⟨p, xs, y, rfl, rfl, hp, szl hn, h⟩
theorem k_itT {b : Bool} {A B : Prop} (e : b = true) (h : A) : if b = true then A else B := by rw [if_pos e]; exact h
theorem k_itF {b : Bool} {A B : Prop} (e : b = false) (h : B) : if b = true then A else B := by rw [e]; exact h
theorem iteNT {A B : Prop} (h : B) : if (!true) = true then A else B := iteF h
theorem iteNF {A B : Prop} (h : A) : if (!false) = true then A else B := iteT h
theorem k_itDT {c A B : Prop} [Decidable c] (e : c) (h : A) : if decide c = true then A else B := by rw [if_pos (decide_eq_true e)]; exact h
theorem k_itDF {c A B : Prop} [Decidable c] (e : ¬ c) (h : B) : if decide c = true then A else B := by rw [decide_eq_false e]; exact h
theorem k_itNT {c A B : Prop} [Decidable c] (e : ¬ c) (h : A) : if (!decide c) = true then A else B := by rw [decide_eq_false e]; exact h
theorem k_itNF {c A B : Prop} [Decidable c] (e : c) (h : B) : if (!decide c) = true then A else B := by rw [decide_eq_true e]; exact h
theorem k_for {nx : L2.St → Hp → Prop} {rt : VK} {bk ct : L2.St → Hp → Prop} {wi : TI} {g : TG} {tb : TS} (h : wi σ H fun J H1 => ∃ W : Nat → Nat → L2.St → Hp → Prop, (∃ m, W 0 m σ H1) ∧ ∀ i m σ H, W i m σ H →
  (J.stop i H ∧ nx σ H) ∨ (J.go i H ∧ ∃ N : L2.St → Hp → Prop, (∀ σ' H', N σ' H' → ∃ m', m' < m ∧ W (i + 1) m' σ' H') ∧ ∀ x H', J.yld i H x H' → g x σ H' fun σ2 H2 => tb ⟨N, rt, nx, N⟩ σ2 H2)) : tFor wi g tb ⟨nx, rt, bk, ct⟩ σ H := h
theorem forL {nx : L2.St → Hp → Prop} {rt : VK} {b : Addr} {xs : List V} {g : TG} {tb : TS} (hs0 : SqL K H b xs) (Pv : Nat → L2.St → Hp → Prop) (h0 : Pv 0 σ H) (hl : ∀ i σ H, i ≤ xs.length → Pv i σ H → SqL K H b xs)
    (hs : ∀ (i : Nat) x σ H, xs[i]? = some x → Pv i σ H → g x σ H fun σ2 H2 => tb ⟨Pv (i + 1), rt, nx, Pv (i + 1)⟩ σ2 H2) (hd : ∀ σ H, Pv xs.length σ H → nx σ H) :
    ∃ a, V.ref b = .ref a ∧ (∃ xs, SqL K H a xs) ∧ ∃ W : Nat → Nat → L2.St → Hp → Prop, (∃ m, W 0 m σ H) ∧ ∀ i m σ H, W i m σ H →
      ((Itl K a).stop i H ∧ nx σ H) ∨ ((Itl K a).go i H ∧ ∃ N : L2.St → Hp → Prop, (∀ σ' H', N σ' H' → ∃ m', m' < m ∧ W (i + 1) m' σ' H') ∧ ∀ x H', (Itl K a).yld i H x H' → g x σ H' fun σ2 H2 => tb ⟨N, rt, nx, N⟩ σ2 H2) :=
  ⟨b, rfl, ⟨xs, hs0⟩, for_list (D := ⟨nx, rt, fun _ _ => False, fun _ _ => False⟩) Pv h0 hl hs hd⟩
theorem forR {nx : L2.St → Hp → Prop} {rt : VK} {lo : Int} {n : Nat} {g : TG} {tb : TS} (Pv : Nat → L2.St → Hp → Prop) (h0 : Pv 0 σ H)
    (hs : ∀ (i : Nat) σ H, i < n → Pv i σ H → g (.int (lo + i)) σ H fun σ2 H2 => tb ⟨Pv (i + 1), rt, nx, Pv (i + 1)⟩ σ2 H2) (hd : ∀ σ H, Pv n σ H → nx σ H) :
    ∃ W : Nat → Nat → L2.St → Hp → Prop, (∃ m, W 0 m σ H) ∧ ∀ i m σ H, W i m σ H →
      ((Itr lo n).stop i H ∧ nx σ H) ∨ ((Itr lo n).go i H ∧ ∃ N : L2.St → Hp → Prop, (∀ σ' H', N σ' H' → ∃ m', m' < m ∧ W (i + 1) m' σ' H') ∧ ∀ x H', (Itr lo n).yld i H x H' → g x σ H' fun σ2 H2 => tb ⟨N, rt, nx, N⟩ σ2 H2) :=
  for_range (D := ⟨nx, rt, fun _ _ => False, fun _ _ => False⟩) Pv h0 hs hd
theorem k_while {nx : L2.St → Hp → Prop} {rt : VK} {bk ct : L2.St → Hp → Prop} {c : TT} {tb : TS} (h : ∃ W : Nat → L2.St → Hp → Prop, (∃ m, W m σ H) ∧ ∀ m σ H, W m σ H →
  c σ H fun b H1 => if b = true then ∃ N : L2.St → Hp → Prop, (∀ σ' H', N σ' H' → ∃ m', m' < m ∧ W m' σ' H') ∧ tb ⟨N, rt, nx, N⟩ σ H1 else nx σ H1) : tWhile c tb ⟨nx, rt, bk, ct⟩ σ H := h
theorem whileW {nx : L2.St → Hp → Prop} {rt : VK} {bk ct : L2.St → Hp → Prop} {c : TT} {tb : TS} (W : Nat → L2.St → Hp → Prop) {m0 : Nat} (h0 : W m0 σ H)
    (hs : ∀ m σ H, W m σ H → c σ H fun b H1 => if b = true then tb ⟨fun σ' H' => ∃ m', m' < m ∧ W m' σ' H', rt, nx, fun σ' H' => ∃ m', m' < m ∧ W m' σ' H'⟩ σ H1 else nx σ H1)
    (mono : ∀ σ H (Q Q' : Bool → Hp → Prop), (∀ b H1, Q b H1 → Q' b H1) → c σ H Q → c σ H Q') : tWhile c tb ⟨nx, rt, bk, ct⟩ σ H := by
  refine ⟨W, ⟨m0, h0⟩, fun m σ H w => mono σ H _ _ (fun b H1 q => ?_) (hs m σ H w)⟩
  cases b with
  | true => exact ⟨_, fun σ' H' h => h, q⟩
  | false => exact q
theorem k_iList {R : It → Hp → Prop} (h : te σ H fun x H1 => ∃ a, x = .ref a ∧ (∃ xs, SqL K H1 a xs) ∧ R (Itl K a) H1) : iList K te σ H R := h
theorem k_iTup {R : It → Hp → Prop} (h : te σ H fun x H1 => ∃ a, x = .ref a ∧ (∃ xs, SqT K H1 a xs) ∧ R (Itt K a) H1) : iTup K te σ H R := h
theorem k_iZip {R : It → Hp → Prop} (h : tr σ H fun vs H1 => ∃ a b xs ys, vs = [.ref a, .ref b] ∧ SqL K H1 a xs ∧ SqL K H1 b ys ∧ R (Itz K a b) H1) : iZip K tr σ H R := h
theorem k_iEnum {R : It → Hp → Prop} (h : tr σ H fun vs H1 => ∃ a xs, vs = [.ref a] ∧ SqL K H1 a xs ∧ R (Ite K a) H1) : iEnum K tr σ H R := h
theorem k_iRng1 {R : It → Hp → Prop} (h : tr σ H fun vs H1 => ∃ j : Int, vs = [.int j] ∧ -(2 ^ 62) ≤ j ∧ j < 2 ^ 62 ∧ R (Itr 0 j.toNat) H1) : iRng1 tr σ H R := h
theorem k_iRng2 {R : It → Hp → Prop} (h : tr σ H fun vs H1 => ∃ i j : Int, vs = [.int i, .int j] ∧ (-(2 ^ 62) ≤ i ∧ i < 2 ^ 62 ∧ -(2 ^ 62) ≤ j ∧ j < 2 ^ 62) ∧ R (Itr i (j - i).toNat) H1) : iRng2 tr σ H R := h
theorem k_rj1 {j : Int} {R : Int → Prop} (h1 : -(2 ^ 62) ≤ j) (h2 : j < 2 ^ 62) (h : R j) : ∃ j' : Int, [V.int j] = [.int j'] ∧ -(2 ^ 62) ≤ j' ∧ j' < 2 ^ 62 ∧ R j' := ⟨j, rfl, h1, h2, h⟩
theorem k_rj2 {i j : Int} {R : Int → Int → Prop} (h1 : -(2 ^ 62) ≤ i ∧ i < 2 ^ 62 ∧ -(2 ^ 62) ≤ j ∧ j < 2 ^ 62) (h : R i j) : ∃ i' j' : Int, [V.int i, V.int j] = [.int i', .int j'] ∧ (-(2 ^ 62) ≤ i' ∧ i' < 2 ^ 62 ∧ -(2 ^ 62) ≤ j' ∧ j' < 2 ^ 62) ∧ R i' j' := ⟨i, j, rfl, h1, h⟩
theorem k_it {c A B : Prop} [Decidable c] (h1 : c → A) (h2 : ¬ c → B) : if decide c = true then A else B := by
  by_cases h : c
  · rw [if_pos (decide_eq_true h)]; exact h1 h
  · rw [decide_eq_false h]; exact h2 h
theorem k_itn {c A B : Prop} [Decidable c] (h1 : ¬ c → A) (h2 : c → B) : if (!decide c) = true then A else B := by
  by_cases h : c
  · rw [decide_eq_true h]; exact h2 h
  · rw [decide_eq_false h]; exact h1 h
theorem k_itb {b : Bool} {A B : Prop} (h1 : b = true → A) (h2 : b = false → B) : if b = true then A else B := by
  cases b with
  | true => exact h1 rfl
  | false => exact h2 rfl
theorem k_isi {x : V} {c : String} {tx : String} {b : Bool} (ht : TyX K H x (.type tx)) (hb : kitB tx c = some b) (h : Q (.bl b) H) : rIsi K [x, .ty c] H Q := ⟨x, .ty c, .type tx, .type c, b, rfl, .ty c, ht, kit_ty hb, h⟩

theorem ty_list {p : Addr} {xs : List V} (h : SqL K H p xs) : TyX K H (.ref p) (.type "list") := by
  rcases h with (h | ⟨o, h⟩) | ⟨o, its, n, h, c, _⟩
  · exact .base (.lst h)
  · exact .base (.frz h)
  · exact .kList h c
theorem k_isiL {p : Addr} {xs : List V} (hs : SqL K H p xs) (h : Q (.bl true) H) : rIsi K [.ref p, .ty "list"] H Q := k_isi (ty_list hs) (by decide +kernel) h
theorem k_isiLI {i : Int} (h : Q (.bl false) H) : rIsi K [.int i, .ty "list"] H Q := k_isi (.base (.int i)) (by decide +kernel) h
theorem k_isiI {i : Int} (h : Q (.bl true) H) : rIsi K [.int i, .ty "int"] H Q := k_isi (.base (.int i)) (by decide +kernel) h
theorem k_isiB {i : Int} (h : Q (.bl false) H) : rIsi K [.int i, .ty "bool"] H Q := k_isi (.base (.int i)) (by decide +kernel) h
theorem inV_ints (x : Int) : ∀ ns : List Int, inV (.int x) (ns.map V.int) = decide (x ∈ ns)
  | [] => rfl
  | n :: r => by
    show (eqV (.int n) (.int x) || inV (.int x) (r.map V.int)) = decide (x ∈ n :: r)
    rw [inV_ints x r]
    show ((n == x) || decide (x ∈ r)) = decide (x ∈ n :: r)
    by_cases h : n = x
    · subst h; simp
    · have : (n == x) = false := by simp [h]
      rw [this, Bool.false_or]
      have h' : ¬ x = n := fun e => h e.symm
      simp [h']
theorem flat_ints : ∀ ns : List Int, (ns.map V.int).all flatV = true
  | [] => rfl
  | _ :: r => by show (true && (r.map V.int).all flatV) = true; rw [flat_ints r]; rfl
theorem k_inI {p : Addr} {ns : List Int} {x : Int} (hs : SqL K H p (ns.map V.int)) (h : Q (.bl (decide (x ∈ ns))) H) : rIn K false (.int x) (.ref p) H Q :=
  ⟨p, _, rfl, .inl hs, rfl, flat_ints ns, by rw [if_neg Bool.false_ne_true, inV_ints]; exact h⟩
theorem k_notInI {p : Addr} {ns : List Int} {x : Int} (hs : SqL K H p (ns.map V.int)) (h : Q (.bl (!decide (x ∈ ns))) H) : rIn K true (.int x) (.ref p) H Q :=
  ⟨p, _, rfl, .inl hs, rfl, flat_ints ns, by rw [if_pos rfl, inV_ints]; exact h⟩
theorem k_intB {b : Bool} (h : Q (.int (if b then 1 else 0)) H) : rIntOf [.bl b] H Q := .inr ⟨b, rfl, h⟩
theorem at_int {ns : List Int} {i : Int} (h0 : 0 ≤ i) (h1 : i < ns.length) : atI (ns.map V.int) i = some (.int (ns.getD i.toNat 0)) := by
  obtain ⟨k, rfl⟩ : ∃ k : Nat, i = k := ⟨i.toNat, by omega⟩
  have h : k < ns.length := by omega
  refine atI_nat ?_
  rw [List.getElem?_map]
  simp [List.getElem?_eq_getElem h, List.getD_eq_getElem?_getD]
theorem k_ixI {p : Addr} {ns : List Int} {i : Int} (hs : SqL K H p (ns.map V.int)) (h0 : 0 ≤ i) (h1 : i < ns.length) (h : Q (.int (ns.getD i.toNat 0)) H) : rIxL K (.ref p) (.int i) H Q := k_ixL hs (at_int h0 h1) h
theorem k_eqD {x y : V} {c d : PyData} {n : Nat} (hx : Dp K H x c) (hy : Dp K H y d) (h1 : Sh n c) (h2 : Sh n d) (hn : n ≤ 64) (h : Q (.bl (PyData.eqv c d)) H) : rEqD K x y H Q := ⟨c, d, hx, hy, h1.shaped hn, h2.shaped hn, h⟩
theorem k_neD {x y : V} {c d : PyData} {n : Nat} (hx : Dp K H x c) (hy : Dp K H y d) (h1 : Sh n c) (h2 : Sh n d) (hn : n ≤ 64) (h : Q (.bl (!PyData.eqv c d)) H) : rNeD K x y H Q := ⟨c, d, hx, hy, h1.shaped hn, h2.shaped hn, h⟩
theorem k_neD0 {x y : V} {c : PyData} {n : Nat} (hx : Dp K H x c) (hy : Dp K H y c) (h1 : Sh n c) (hn : n ≤ 64) (h : Q (.bl false) H) : rNeD K x y H Q := k_neD hx hy h1 h1 hn (by rw [h1.refl]; exact h)
theorem k_eqD1 {x y : V} {c : PyData} {n : Nat} (hx : Dp K H x c) (hy : Dp K H y c) (h1 : Sh n c) (hn : n ≤ 64) (h : Q (.bl true) H) : rEqD K x y H Q := k_eqD hx hy h1 h1 hn (by rw [h1.refl]; exact h)
theorem k_getI {p : Addr} {ns : List Int} {i : Int} (hs : SqL K H p (ns.map V.int)) (h0 : 0 ≤ i) (h1 : i < ns.length) (h : Q (.int (ns.getD i.toNat 0)) H) : rGetL K (.ref p) (.int i) H Q := ⟨p, _, i, _, rfl, rfl, hs, h0, at_int h0 h1, h⟩
theorem k_setI {p : Addr} {ns : List Int} {k v : Int} {QH : Hp → Prop} (hp : H p = some (.lst (ns.map V.int))) (h0 : 0 ≤ k) (h1 : k < ns.length) (h : QH (upd H p (.lst ((ns.set k.toNat v).map V.int)))) : rSetL (.ref p) (.int k) (.int v) H QH :=
  ⟨p, _, k, k.toNat, rfl, rfl, hp, ixN_of h0 (by rw [List.length_map]; exact h1), by rw [List.map_set] at h; exact h⟩
theorem k_rep {p : Addr} {xs : List V} {k : Int} (hp : H p = some (.lst xs)) (h0 : 0 ≤ k) (h1 : k < 100000) (h2 : xs.length * k.toNat ≤ 100000) (h : ∀ l, H l = none → Q (.ref l) (upd H l (.lst (List.replicate k.toNat xs).flatten))) : rRep (.ref p) (.int k) H Q := ⟨p, k, xs, rfl, rfl, hp, by omega, by omega, sz h2, h⟩
theorem k_eqB {a b : Bool} (h : Q (.bl (decide (a = b))) H) : rEq (.bl a) (.bl b) H Q := ⟨rfl, by
  have e : decide (V.bl a = V.bl b) = decide (a = b) := by cases a <;> cases b <;> decide
  rw [e]; exact h⟩
theorem k_neB {a b : Bool} (h : Q (.bl (!decide (a = b))) H) : rNe (.bl a) (.bl b) H Q := ⟨rfl, by
  have e : decide (V.bl a = V.bl b) = decide (a = b) := by cases a <;> cases b <;> decide
  rw [e]; exact h⟩
/-- new objects, the heap behind as a letter -/
theorem k_newL {xs : List V} (hn : xs.length ≤ 100000) (h : ∀ p H', H p = none → Same H H' → H' p = some (.lst xs) → Q (.ref p) H') : xs.length ≤ sizeLine ∧ ∀ p, H p = none → Q (.ref p) (upd H p (.lst xs)) :=
  ⟨sz hn, fun p np => h p _ np (same_new np) upd_same⟩
theorem k_newT {xs : List V} (hn : xs.length ≤ 100000) (h : ∀ p H', H p = none → Same H H' → H' p = some (.tup xs) → Q (.ref p) H') : xs.length ≤ sizeLine ∧ ∀ p, H p = none → Q (.ref p) (upd H p (.tup xs)) :=
  ⟨sz hn, fun p np => h p _ np (same_new np) upd_same⟩
theorem k_listN {p : Addr} {ys : List V} (hs : SqL K H p ys) (h : ∀ l H', H l = none → Same H H' → H' l = some (.lst ys) → Q (.ref l) H') : rListOf K [.ref p] H Q := k_list hs fun l nl => h l _ nl (same_new nl) upd_same
theorem k_slL {a : Addr} {xs : List V} {lo hi : Option Int} (hs : SqL K H a xs) (h : ∀ p H', H p = none → Same H H' → H' p = some (.lst (cutV xs lo hi)) → Q (.ref p) H') : rSlL K (.ref a) lo hi H Q := ⟨a, xs, rfl, hs, fun p np => h p _ np (same_new np) upd_same⟩
theorem k_sl {r : V → Option Int → Option Int → Hp → VK → Prop} {tl th : TO} (h : te σ H fun x H1 => tl σ H1 fun l H2 => th σ H2 fun u H3 => r x l u H3 Q) : tSl r te tl th σ H Q := h
theorem k_nopart {QO : Option Int → Hp → Prop} (h : QO none H) : tNoPart σ H QO := h
theorem k_part {QO : Option Int → Hp → Prop} (h : te σ H fun x H1 => ∃ i, x = .int i ∧ QO (some i) H1) : tPart te σ H QO := h
theorem k_int {i : Int} {R : Int → Prop} (h : R i) : ∃ j, V.int i = .int j ∧ R j := ⟨i, rfl, h⟩
theorem rg_ints (a b : Int) : rgV a b = ((List.range (b - a).toNat).map fun i => a + (i : Nat)).map V.int := by
  unfold rgV; rw [List.map_map]; rfl
theorem k_listRg {tg : L2.St → Hp → (Int → Int → Hp → Prop) → Prop} (h : tg σ H fun a b H1 => RgOk a b ∧ ∀ q, H1 q = none → Q (.ref q) (upd H1 q (.lst (rgV a b)))) : tLstRg tg σ H Q := h
theorem k_rg1 {QR : Int → Int → Hp → Prop} (h : ta σ H fun x H1 => ∃ n, x = .int n ∧ QR 0 n H1) : tRg1 ta σ H QR := h
theorem k_rg2 {QR : Int → Int → Hp → Prop} (h : ta σ H fun x H1 => tb σ H1 fun y H2 => ∃ i j, x = .int i ∧ y = .int j ∧ QR i j H2) : tRg2 ta tb σ H QR := h
theorem k_int2 {i j : Int} {R : Int → Int → Prop} (h : R i j) : ∃ i' j', V.int i = .int i' ∧ V.int j = .int j' ∧ R i' j' := ⟨i, j, rfl, rfl, h⟩
theorem k_rgN {a b : Int} (hr : RgOk a b) (h : ∀ p H', H p = none → Same H H' → H' p = some (.lst (rgV a b)) → Q (.ref p) H') : RgOk a b ∧ ∀ q, H q = none → Q (.ref q) (upd H q (.lst (rgV a b))) := ⟨hr, fun q nq => h q _ nq (same_new nq) upd_same⟩
theorem dp_of_int {i j : Int} (e : i = j) : Dp K H (.int i) (.int j) := e ▸ .int i
end
/-! ### heaps with some places out of sight -/
def hid (S : List Addr) (H : Hp) : Hp := fun b => if b ∈ S then none else H b
theorem hid_ne {S : List Addr} {H : Hp} {b : Addr} (h : b ∉ S) : hid S H b = H b := if_neg h
theorem hid_in {S : List Addr} {H : Hp} {b : Addr} (h : b ∈ S) : hid S H b = none := if_pos h
theorem hid_some {S : List Addr} {H : Hp} {b : Addr} {o : HO} (h : hid S H b = some o) : b ∉ S ∧ H b = some o := by
  unfold hid at h
  split at h
  · cases h
  · exact ⟨by assumption, h⟩
theorem hid_same (S : List Addr) (H : Hp) : Same (hid S H) H := fun b o h => (hid_some h).2
theorem hid_mono {S : List Addr} {H H' : Hp} (e : Same H H') : Same (hid S H) (hid S H') := fun b o h => by
  obtain ⟨n, h⟩ := hid_some h
  rw [hid_ne n]
  exact e b o h
theorem hid_sub {S S' : List Addr} {H : Hp} (h : ∀ a ∈ S, a ∈ S') : Same (hid S' H) (hid S H) := fun b o e => by
  obtain ⟨n, e⟩ := hid_some e
  rw [hid_ne fun z => n (h b z)]
  exact e
/-- a change at a hidden place -/
theorem hid_upd {S : List Addr} {H : Hp} {p : Addr} {o : HO} (h : p ∈ S) : hid S (upd H p o) = hid S H := by
  funext b
  unfold hid
  split
  · rfl
  · rename_i n
    rw [upd_ne fun e => n (by rw [e]; exact h)]
theorem same_hid_upd {S : List Addr} {H0 H : Hp} {p : Addr} {o : HO} (e : Same H0 (hid S H)) (h : p ∈ S) : Same H0 (hid S (upd H p o)) := by rw [hid_upd h]; exact e
/-- what the law's data says stays when a fresh object is changed -/
theorem same_hid_mut {S : List Addr} {H0 H : Hp} {p : Addr} {o : HO} (e : Same H0 (hid S H)) (h : H0 p = none) : Same H0 (hid S (upd H p o)) := fun b u hb => by
  have := e b u hb
  obtain ⟨n, q⟩ := hid_some this
  rw [hid_ne n, upd_ne (ne_of_none hb h)]
  exact q
theorem hid_more {S S' : List Addr} {H H' : Hp} (e : Same (hid S H) (hid S H')) (h : ∀ a ∈ S, a ∈ S') : Same (hid S' H) (hid S' H') := fun b o hb => by
  obtain ⟨n, q⟩ := hid_some hb
  have n' : b ∉ S := fun z => n (h b z)
  have := e b o (by rw [hid_ne n']; exact q)
  rw [hid_ne n'] at this
  rw [hid_ne n]
  exact this
theorem same_hid_new {S : List Addr} {H : Hp} {p : Addr} {o : HO} (h : H p = none) : Same (hid S H) (hid S (upd H p o)) := hid_mono (same_new h)

theorem same_of_hid {S : List Addr} {H0 H1 H2 : Hp} (h : Same H0 H1) (f : ∀ a ∈ S, H0 a = none) (e : Same (hid S H1) (hid S H2)) : Same H0 H2 := fun b o hb => by
  have n : b ∉ S := fun z => by rw [f b z] at hb; cases hb
  have := e b o (by rw [hid_ne n]; exact h b o hb)
  rw [hid_ne n] at this
  exact this
theorem free1 {H0 : Hp} {p : Addr} (h : H0 p = none) : ∀ a ∈ [p], H0 a = none := fun a z => by rw [List.mem_singleton.mp z]; exact h
theorem cutTo {ns : List Int} (k : Nat) : cutV (ns.map V.int) none (some (k : Int)) = (ns.take k).map V.int := by
  unfold cutV
  rw [HT.sIx_none, HT.sIx_nat, List.drop_zero, List.length_map, Nat.sub_zero, List.map_take]
  by_cases h : k ≤ ns.length
  · rw [Nat.min_eq_left h]
  · rw [Nat.min_eq_right (by omega), List.take_of_length_le (by simp), List.take_of_length_le (by simp; omega)]
/-! ### the law's purse: a list of the cells and the turn -/
structure Pu (H : Hp) (pu ce : Addr) (n : Nat) (t : Int) : Prop where
  hp : H pu = some (.lst [.ref ce, .int t])
  hc : ∃ cs : List Int, cs.length = n ∧ H ce = some (.lst (cs.map V.int))
  n0 : 0 < n
  n1 : n ≤ 63
  t0 : 0 ≤ t
theorem Pu.ne {H : Hp} {pu ce : Addr} {n : Nat} {t : Int} (h : Pu H pu ce n t) : pu ≠ ce := fun e => by
  obtain ⟨cs, hl, hc⟩ := h.hc
  have hp := h.hp
  rw [e, hc] at hp
  cases cs with
  | nil => injection hp with hp; injection hp with hp; cases hp
  | cons x r => injection hp with hp; injection hp with hp; injection hp with h1 h2; cases h1
theorem Pu.fresh {H : Hp} {pu ce : Addr} {n : Nat} {t : Int} (h : Pu H pu ce n t) {p : Addr} (np : H p = none) : p ∉ [pu, ce] := fun z => by
  obtain ⟨cs, hl, hc⟩ := h.hc
  rcases List.mem_cons.mp z with rfl | z
  · rw [h.hp] at np; cases np
  · rcases List.mem_cons.mp z with rfl | z
    · rw [hc] at np; cases np
    · cases z
theorem Pu.upd {H : Hp} {pu ce : Addr} {n : Nat} {t : Int} (h : Pu H pu ce n t) {p : Addr} {o : HO} (np : p ∉ [pu, ce]) : Pu (upd H p o) pu ce n t := by
  have h1 : pu ≠ p := fun e => np (by rw [e]; exact List.mem_cons_self)
  have h2 : ce ≠ p := fun e => np (by rw [e]; exact List.mem_cons_of_mem _ List.mem_cons_self)
  obtain ⟨cs, hl, hc⟩ := h.hc
  exact ⟨by rw [upd_ne h1]; exact h.hp, ⟨cs, hl, by rw [upd_ne h2]; exact hc⟩, h.n0, h.n1, h.t0⟩
theorem Pu.same {H H' : Hp} {pu ce : Addr} {n : Nat} {t : Int} (h : Pu H pu ce n t) (e : Same H H') : Pu H' pu ce n t := by
  obtain ⟨cs, hl, hc⟩ := h.hc
  exact ⟨e _ _ h.hp, ⟨cs, hl, e _ _ hc⟩, h.n0, h.n1, h.t0⟩
/-- an object that is none of the purse's stays as it is -/
theorem keeps {S : List Addr} {H H' : Hp} (e : Same (hid S H) (hid S H')) {b : Addr} {o : HO} (hb : H b = some o) (n : b ∉ S) : H' b = some o := by
  have := e b o (by rw [hid_ne n]; exact hb)
  rw [hid_ne n] at this
  exact this
theorem fresh_hid {S : List Addr} {H H' : Hp} (e : Same (hid S H) (hid S H')) {b : Addr} (hb : H' b = none) (n : b ∉ S) : H b = none := by
  have := e.free (l := b) (by rw [hid_ne n]; exact hb)
  rw [hid_ne n] at this
  exact this
theorem getD_set_len {α : Type} (l : List α) (i : Nat) (v : α) : (l.set i v).length = l.length := List.length_set
theorem map_set_int (cs : List Int) (i : Nat) (v : Int) : (cs.map V.int).set i (.int v) = (cs.set i v).map V.int := by rw [List.map_set]

/-! ### the law's other purse: [a number, a mark, how many were drawn] -/
structure Le (H : Hp) (pu : Addr) (k : Int) : Prop where
  hp : ∃ x f : Int, H pu = some (.lst [.int x, .int f, .int k]) ∧ (f = 0 → 0 ≤ x ∧ x < 2147483629)
  k0 : 0 ≤ k
theorem Le.fresh {H : Hp} {pu : Addr} {k : Int} (h : Le H pu k) {p : Addr} (np : H p = none) : p ∉ [pu] := fun z => by
  obtain ⟨x, f, hp, _⟩ := h.hp
  rw [List.mem_singleton.mp z, hp] at np
  cases np
theorem Le.upd {H : Hp} {pu : Addr} {k : Int} (h : Le H pu k) {p : Addr} {o : HO} (np : p ∉ [pu]) : Le (upd H p o) pu k := by
  obtain ⟨x, f, hp, hx⟩ := h.hp
  exact ⟨⟨x, f, by rw [upd_ne fun e => np (by rw [e]; exact List.mem_singleton.mpr rfl)]; exact hp, hx⟩, h.k0⟩
theorem Le.same {H H' : Hp} {pu : Addr} {k : Int} (h : Le H pu k) (e : Same H H') : Le H' pu k := by
  obtain ⟨x, f, hp, hx⟩ := h.hp
  exact ⟨⟨x, f, e _ _ hp, hx⟩, h.k0⟩

/-! ### comprehensions whose block leaves the heap as it is -/
section
variable {K : PySem.W.Frag} {σ : L2.St} {H1 : Hp} {Q : VK} {g : TG} {tt : TT} {te : TE} {vs : List Nat}
theorem k_lc {wi : TI} (h : wi σ H1 fun J H1 => ∀ D, H1 D = none → ∃ W : Nat → Nat → Hp → Prop, (∃ m, W 0 m (upd H1 D (.lst []))) ∧ ∀ i m H, W i m H →
  (J.stop i H ∧ Q (.ref D) H) ∨ (J.go i H ∧ ∃ Nx : Hp → Prop, (∀ H', Nx H' → ∃ m', m' < m ∧ W (i + 1) m' H') ∧ ∀ x H', J.yld i H x H' → g x (wipe σ vs) H' fun σ2 H2 => wipe σ2 vs = wipe σ vs ∧ tt σ2 H2 fun b H3 =>
    if b = true then te σ2 H3 fun y H4 => ∃ acc, H4 D = some (.lst acc) ∧ acc.length < sizeLine ∧ Nx (upd H4 D (.lst (acc ++ [y]))) else Nx H3)) : tLc wi g tt te vs σ H1 Q := h
theorem k_wipe {σ' : L2.St} {R : Prop} (e : wipe σ' vs = wipe σ vs) (h : R) : wipe σ' vs = wipe σ vs ∧ R := ⟨e, h⟩
theorem k_yes {QT : Bool → Hp → Prop} (h : QT true H1) : tYes σ H1 QT := h
theorem take_filterMap {α β : Type} {f : α → Option β} {ps : List α} {i : Nat} {p : α} (h : ps[i]? = some p) : (ps.take (i + 1)).filterMap f = (ps.take i).filterMap f ++ (f p).toList := by
  rw [List.take_add_one, h, List.filterMap_append]
  simp [List.filterMap_cons]
  cases f p <;> rfl
/-- over a list of which ps tells the items -/
theorem lc_pure {QD : Addr → Hp → Prop} {α : Type} {a : Addr} {xs : List V} (hs : SqL K H1 a xs) (ps : List α) (hl : xs.length = ps.length) (hz : ps.length ≤ 50000) (f : α → Option V)
    (step : ∀ (i : Nat) x p H', xs[i]? = some x → ps[i]? = some p → Same H1 H' → ∀ (R : V → Hp → Prop) (R0 : Hp → Prop), (∀ y, f p = some y → R y H') → (f p = none → R0 H') →
      g x (wipe σ vs) H' fun σ2 H2 => wipe σ2 vs = wipe σ vs ∧ tt σ2 H2 fun b H3 => if b = true then te σ2 H3 R else R0 H3)
    (h : ∀ D H', H1 D = none → Same H1 H' → H' D = some (.lst (ps.filterMap f)) → QD D H') :
    ∃ a', V.ref a = .ref a' ∧ (∃ xs, SqL K H1 a' xs) ∧ ∀ D, H1 D = none → ∃ W : Nat → Nat → Hp → Prop, (∃ m, W 0 m (upd H1 D (.lst []))) ∧ ∀ i m H, W i m H →
      ((Itl K a').stop i H ∧ QD D H) ∨ ((Itl K a').go i H ∧ ∃ Nx : Hp → Prop, (∀ H', Nx H' → ∃ m', m' < m ∧ W (i + 1) m' H') ∧ ∀ x H', (Itl K a').yld i H x H' → g x (wipe σ vs) H' fun σ2 H2 => wipe σ2 vs = wipe σ vs ∧ tt σ2 H2 fun b H3 =>
        if b = true then te σ2 H3 fun y H4 => ∃ acc, H4 D = some (.lst acc) ∧ acc.length < sizeLine ∧ Nx (upd H4 D (.lst (acc ++ [y]))) else Nx H3) := by
  refine ⟨a, rfl, ⟨xs, hs⟩, fun D nD => lc_list (xs := xs) (fun i H => Same H1 H ∧ H D = some (.lst ((ps.take i).filterMap f))) ⟨same_new nD, by rw [upd_same]; simp⟩ (fun i H _ e => e.1.seq hs) ?_ ?_⟩
  · rintro i x H hx ⟨sm, hD⟩
    have hi : i < xs.length := (List.getElem?_eq_some_iff.mp hx).1
    obtain ⟨p, hp⟩ : ∃ p, ps[i]? = some p := ⟨ps[i]'(by omega), List.getElem?_eq_getElem (by omega)⟩
    have tk := take_filterMap (f := f) hp
    refine step i x p H hx hp sm _ _ (fun y hy => ⟨_, hD, szl ?_, same_mut sm nD, ?_⟩) (fun hn => ⟨sm, ?_⟩)
    · have := List.length_filterMap_le f (ps.take i)
      rw [List.length_take] at this
      omega
    · rw [upd_same, tk, hy]; rfl
    · rw [tk, hn, hD]; simp
  · rintro H ⟨sm, hD⟩
    rw [hl, List.take_length] at hD
    exact h D H nD sm hD
/-- the same where a turn may make new objects -/
theorem lc_grow {QD : Addr → Hp → Prop} {α : Type} {a : Addr} {xs : List V} (hs : SqL K H1 a xs) (ps : List α) (hl : xs.length = ps.length) (hz : ps.length ≤ 50000) (f : α → Option V)
    (step : ∀ (i : Nat) x p H', xs[i]? = some x → ps[i]? = some p → Same H1 H' → ∀ (R : V → Hp → Prop) (R0 : Hp → Prop), (∀ y H'', f p = some y → Same H' H'' → R y H'') → (∀ H'', f p = none → Same H' H'' → R0 H'') →
      g x (wipe σ vs) H' fun σ2 H2 => wipe σ2 vs = wipe σ vs ∧ tt σ2 H2 fun b H3 => if b = true then te σ2 H3 R else R0 H3)
    (h : ∀ D H', H1 D = none → Same H1 H' → H' D = some (.lst (ps.filterMap f)) → QD D H') :
    ∃ a', V.ref a = .ref a' ∧ (∃ xs, SqL K H1 a' xs) ∧ ∀ D, H1 D = none → ∃ W : Nat → Nat → Hp → Prop, (∃ m, W 0 m (upd H1 D (.lst []))) ∧ ∀ i m H, W i m H →
      ((Itl K a').stop i H ∧ QD D H) ∨ ((Itl K a').go i H ∧ ∃ Nx : Hp → Prop, (∀ H', Nx H' → ∃ m', m' < m ∧ W (i + 1) m' H') ∧ ∀ x H', (Itl K a').yld i H x H' → g x (wipe σ vs) H' fun σ2 H2 => wipe σ2 vs = wipe σ vs ∧ tt σ2 H2 fun b H3 =>
        if b = true then te σ2 H3 fun y H4 => ∃ acc, H4 D = some (.lst acc) ∧ acc.length < sizeLine ∧ Nx (upd H4 D (.lst (acc ++ [y]))) else Nx H3) := by
  refine ⟨a, rfl, ⟨xs, hs⟩, fun D nD => lc_list (xs := xs) (fun i H => Same H1 H ∧ H D = some (.lst ((ps.take i).filterMap f))) ⟨same_new nD, by rw [upd_same]; simp⟩ (fun i H _ e => e.1.seq hs) ?_ ?_⟩
  · rintro i x H hx ⟨sm, hD⟩
    have hi : i < xs.length := (List.getElem?_eq_some_iff.mp hx).1
    obtain ⟨p, hp⟩ : ∃ p, ps[i]? = some p := ⟨ps[i]'(by omega), List.getElem?_eq_getElem (by omega)⟩
    have tk := take_filterMap (f := f) hp
    refine step i x p H hx hp sm _ _ (fun y H'' hy s2 => ⟨_, s2 _ _ hD, szl ?_, same_mut (sm.trans s2) nD, ?_⟩) (fun H'' hn s2 => ⟨sm.trans s2, ?_⟩)
    · have := List.length_filterMap_le f (ps.take i)
      rw [List.length_take] at this
      omega
    · rw [upd_same, tk, hy]; rfl
    · rw [tk, hn, s2 _ _ hD]; simp
  · rintro H ⟨sm, hD⟩
    rw [hl, List.take_length] at hD
    exact h D H nD sm hD
theorem range_take {n i : Nat} (h : i < n) : (List.range n)[i]? = some i := by simp [h]
/-- over a range -/
theorem lc_pureR {QD : Addr → Hp → Prop} {lo : Int} {n : Nat} (hz : n ≤ 50000) (f : Nat → Option V)
    (step : ∀ (i : Nat) H', i < n → Same H1 H' → ∀ (R : V → Hp → Prop) (R0 : Hp → Prop), (∀ y, f i = some y → R y H') → (f i = none → R0 H') →
      g (.int (lo + (i : Nat))) (wipe σ vs) H' fun σ2 H2 => wipe σ2 vs = wipe σ vs ∧ tt σ2 H2 fun b H3 => if b = true then te σ2 H3 R else R0 H3)
    (h : ∀ D H', H1 D = none → Same H1 H' → H' D = some (.lst ((List.range n).filterMap f)) → QD D H') :
    ∀ D, H1 D = none → ∃ W : Nat → Nat → Hp → Prop, (∃ m, W 0 m (upd H1 D (.lst []))) ∧ ∀ i m H, W i m H →
      ((Itr lo n).stop i H ∧ QD D H) ∨ ((Itr lo n).go i H ∧ ∃ Nx : Hp → Prop, (∀ H', Nx H' → ∃ m', m' < m ∧ W (i + 1) m' H') ∧ ∀ x H', (Itr lo n).yld i H x H' → g x (wipe σ vs) H' fun σ2 H2 => wipe σ2 vs = wipe σ vs ∧ tt σ2 H2 fun b H3 =>
        if b = true then te σ2 H3 fun y H4 => ∃ acc, H4 D = some (.lst acc) ∧ acc.length < sizeLine ∧ Nx (upd H4 D (.lst (acc ++ [y]))) else Nx H3) := by
  refine fun D nD => lc_range (fun i H => Same H1 H ∧ H D = some (.lst (((List.range n).take i).filterMap f))) ⟨same_new nD, by rw [upd_same]; simp⟩ ?_ ?_
  · rintro i H hi ⟨sm, hD⟩
    have tk := take_filterMap (f := f) (range_take hi)
    refine step i H hi sm _ _ (fun y hy => ⟨_, hD, szl ?_, same_mut sm nD, ?_⟩) (fun hn => ⟨sm, ?_⟩)
    · have := List.length_filterMap_le f ((List.range n).take i)
      rw [List.length_take, List.length_range] at this
      omega
    · rw [upd_same, tk, hy]; rfl
    · rw [tk, hn, hD]; simp
  · rintro H ⟨sm, hD⟩
    rw [List.take_of_length_le (by simp)] at hD
    exact h D H nD sm hD
end
/-! ### min, max of a pair -/
def rMinT (K : PySem.W.Frag) : List V → Hp → VK → Prop := fun xs H Q => ∃ (p : Addr) (a b : Int), xs = [.ref p] ∧ SqT K H p [.int a, .int b] ∧ Q (.int (min a b)) H
def rMaxT (K : PySem.W.Frag) : List V → Hp → VK → Prop := fun xs H Q => ∃ (p : Addr) (a b : Int), xs = [.ref p] ∧ SqT K H p [.int a, .int b] ∧ Q (.int (max a b)) H
theorem reads_int {h : Heap} {v : Value} {n : Int} {as : List Addr} (r : Reads h v (.int n) as) : ∃ t, v = .int n t := by
  cases r; exact ⟨_, rfl⟩
theorem alike2 (a b : Int) : PySem.W.AlikeAll [.int a, .int b] := by
  refine ⟨fun x hx y hy => ?_, fun x hx => ?_⟩
  · simp only [List.mem_cons, List.not_mem_nil, or_false] at hx hy
    rcases hx with rfl | rfl <;> rcases hy with rfl | rfl <;> rfl
  · simp only [List.mem_cons, List.not_mem_nil, or_false] at hx
    rcases hx with rfl | rfl <;> (intro z; cases z)
theorem q_minT {X : Cx} (hc : X.calm = true) (hu : X.A.units + 64 < cLine) : CallR X (.builtin "min") (rMinT X.K) := by
  intro pins s σ H vs us Q I r h
  obtain ⟨p, a, b, rfl, hs, q⟩ := h
  obtain ⟨its, rv, hl, _⟩ := I.tuple hs
  rw [Vals.ref1 r]
  have ri : IntsAre its [a, b] := Vals.ints (ns := [a, b]) rv
  refine PySem.W.min_tuple_data (x := .int a) (xs := [.int b]) (as := []) (I.ok.hd hc) hl (ri.reads _) (alike2 a b) ?_ fun i v h' tk bs hi rd hk => ?_
  · have : PyData.depthAll [.int a, .int b] = 0 := rfl
    omega
  · rw [show PySem.W.minD (.int a) [.int b] = .int (min a b) from PySem.W.minD_ints a [b]] at rd
    obtain ⟨t, rfl⟩ := reads_int rd
    exact ⟨.int _, H, I.kept hk, ⟨_, rfl⟩, q⟩
theorem q_maxT {X : Cx} (hc : X.calm = true) (hu : X.A.units + 64 < cLine) : CallR X (.builtin "max") (rMaxT X.K) := by
  intro pins s σ H vs us Q I r h
  obtain ⟨p, a, b, rfl, hs, q⟩ := h
  obtain ⟨its, rv, hl, _⟩ := I.tuple hs
  rw [Vals.ref1 r]
  have ri : IntsAre its [a, b] := Vals.ints (ns := [a, b]) rv
  refine PySem.W.max_tuple_data (x := .int a) (xs := [.int b]) (as := []) (I.ok.hd hc) hl (ri.reads _) (alike2 a b) ?_ fun i v h' tk bs hi rd hk => ?_
  · have : PyData.depthAll [.int a, .int b] = 0 := rfl
    omega
  · rw [show PySem.W.maxD (.int a) [.int b] = .int (max a b) from PySem.W.maxD_ints a [b]] at rd
    obtain ⟨t, rfl⟩ := reads_int rd
    exact ⟨.int _, H, I.kept hk, ⟨_, rfl⟩, q⟩
theorem k_minT {K : PySem.W.Frag} {H : Hp} {Q : VK} {p : Addr} {a b : Int} (hs : SqT K H p [.int a, .int b]) (h : Q (.int (min a b)) H) : rMinT K [.ref p] H Q := ⟨p, a, b, rfl, hs, h⟩
theorem k_maxT {K : PySem.W.Frag} {H : Hp} {Q : VK} {p : Addr} {a b : Int} (hs : SqT K H p [.int a, .int b]) (h : Q (.int (max a b)) H) : rMaxT K [.ref p] H Q := ⟨p, a, b, rfl, hs, h⟩
end Cm

namespace Cm
open PySem PySem.Spec PyProof.Rows L2
/-! ### steps of a reading, found by instances -/
class Stp (p : Prop) (q : outParam Prop) : Prop where
  run : q → p
class Stps (p : Prop) (q : outParam Prop) : Prop where
  run : q → p
class Stps1 (p : Prop) (q : outParam Prop) : Prop where
  run : q → p
instance (priority := low) stps_nil {p : Prop} : Stps p p := ⟨id⟩
instance (priority := high) stps_cons {p q r : Prop} [a : Stp p q] [b : Stps q r] : Stps p r := ⟨fun h => a.run (b.run h)⟩
instance stps_one {p q r : Prop} [a : Stp p q] [b : Stps q r] : Stps1 p r := ⟨fun h => a.run (b.run h)⟩
theorem go {p q : Prop} [a : Stps1 p q] (h : q) : p := a.run h
class Slot (σ : L2.St) (i : Nat) (v : outParam V) : Prop where
  get : σ[i]? = some (some v)
instance {v : V} {r : L2.St} : Slot (some v :: r) 0 v := ⟨rfl⟩
instance {x : Option V} {v : V} {r : L2.St} {i : Nat} [a : Slot r i v] : Slot (x :: r) (i + 1) v := ⟨a.get⟩
class Put (σ : L2.St) (i : Nat) (v : Option V) (σ' : outParam L2.St) : Prop where
  eq : σ.set i v = σ'
instance {x v : Option V} {r : L2.St} : Put (x :: r) 0 v (v :: r) := ⟨rfl⟩
instance {x v : Option V} {r r' : L2.St} {i : Nat} [a : Put r i v r'] : Put (x :: r) (i + 1) v (x :: r') := ⟨by rw [List.set_cons_succ, a.eq]⟩
instance {σ σ0 σ' : L2.St} {j : Nat} {w : Option V} {i : Nat} {v : Option V} [a : Put σ j w σ0] [b : Put σ0 i v σ'] : Put (List.set σ j w) i v σ' := ⟨by rw [a.eq, b.eq]⟩
instance {σ σ0 : L2.St} {j : Nat} {w : Option V} {i : Nat} {v : V} [a : Put σ j w σ0] [b : Slot σ0 i v] : Slot (List.set σ j w) i v := ⟨by rw [a.eq, b.get]⟩
class Wip (σ : L2.St) (vs : List Nat) (σ' : outParam L2.St) : Prop where
  eq : wipe σ vs = σ'
instance {σ : L2.St} : Wip σ [] σ := ⟨rfl⟩
instance {σ σ' σ'' : L2.St} {i : Nat} {vs : List Nat} [b : Wip σ vs σ'] [a : Put σ' i none σ''] : Wip σ (i :: vs) σ'' := ⟨by
  show (wipe σ vs).set i none = σ''
  rw [b.eq, a.eq]⟩
instance {σ σ0 σ' : L2.St} {vs : List Nat} {i : Nat} {v : Option V} [a : Wip σ vs σ0] [b : Put σ0 i v σ'] : Put (wipe σ vs) i v σ' := ⟨by rw [a.eq, b.eq]⟩
/-- a new list, a new tuple -/
def newL (xs : List V) (H : Hp) (Q : VK) : Prop := xs.length ≤ sizeLine ∧ ∀ p, H p = none → Q (.ref p) (upd H p (.lst xs))
def newT (xs : List V) (H : Hp) (Q : VK) : Prop := xs.length ≤ sizeLine ∧ ∀ p, H p = none → Q (.ref p) (upd H p (.tup xs))
def newR (a b : Int) (H : Hp) (Q : VK) : Prop := RgOk a b ∧ ∀ q, H q = none → Q (.ref q) (upd H q (.lst (rgV a b)))
theorem kL {xs : List V} {H : Hp} {Q : VK} (hn : xs.length ≤ 100000) (h : ∀ p H', H p = none → Same H H' → H' p = some (.lst xs) → Q (.ref p) H') : newL xs H Q := ⟨sz hn, fun p np => h p _ np (same_new np) upd_same⟩
theorem kT {xs : List V} {H : Hp} {Q : VK} (hn : xs.length ≤ 100000) (h : ∀ p H', H p = none → Same H H' → H' p = some (.tup xs) → Q (.ref p) H') : newT xs H Q := ⟨sz hn, fun p np => h p _ np (same_new np) upd_same⟩
theorem kR {a b : Int} {H : Hp} {Q : VK} (hr : RgOk a b) (h : ∀ p H', H p = none → Same H H' → H' p = some (.lst (rgV a b)) → Q (.ref p) H') : newR a b H Q := ⟨hr, fun q nq => h q _ nq (same_new nq) upd_same⟩
section
variable {K : PySem.W.Frag} {σ σ' : L2.St} {H : Hp} {D : Ends} {Q : VK} {ta tb tc te to ti : TE} {t u : TT} {s1 s2 : TS} {QT : Bool → Hp → Prop} {QA : List V → Hp → Prop} {tr : TA} {QS : L2.St → Hp → Prop} {nx bk ct : L2.St → Hp → Prop} {rt : VK} {g : TG} {gs : TGs} {i j : Nat} {v w : V} {a b : Int} {wi : TI} {tS : TS}
instance : Stp (tSeq s1 s2 ⟨nx, rt, bk, ct⟩ σ H) (s1 ⟨s2 ⟨nx, rt, bk, ct⟩, rt, bk, ct⟩ σ H) := ⟨k_seq⟩
instance : Stp (tNext ⟨nx, rt, bk, ct⟩ σ H) (nx σ H) := ⟨k_next⟩
instance : Stp (tCont ⟨nx, rt, bk, ct⟩ σ H) (ct σ H) := ⟨k_cont⟩
instance : Stp (tBreak ⟨nx, rt, bk, ct⟩ σ H) (bk σ H) := ⟨k_brk⟩
instance : Stp (tAsg te g ⟨nx, rt, bk, ct⟩ σ H) (te σ H fun x H1 => g x σ H1 nx) := ⟨k_asg⟩
instance : Stp (tDrop te ⟨nx, rt, bk, ct⟩ σ H) (te σ H fun _ H1 => nx σ H1) := ⟨k_drop⟩
instance : Stp (tRet te ⟨nx, rt, bk, ct⟩ σ H) (te σ H rt) := ⟨k_ret⟩
instance : Stp (tRetN ⟨nx, rt, bk, ct⟩ σ H) (rt .non H) := ⟨k_retN⟩
instance {f : Int → Int → Int} [e : Slot σ i (.int a)] : Stp (tAug i te (ipI f) ⟨nx, rt, bk, ct⟩ σ H) (te σ H fun y H1 => ipI f (.int a) y H1 fun z H2 => gName i z σ H2 nx) := ⟨fun h => k_aug e.get h⟩
instance {f : Int → Int → Int} : Stp (ipI f (.int a) (.int b) H Q) (Q (.int (f a b)) H) := ⟨k_ipI⟩
instance : Stp (xAugL K to ti te ⟨nx, rt, bk, ct⟩ σ H) (to σ H fun o H1 => ti σ H1 fun i H2 => rGetL K o i H2 fun x H3 => te σ H3 fun y H4 => ipI (fun i j => i + j) x y H4 fun z H5 => rSetL o i z H5 fun H6 => nx σ H6) := ⟨k_augL⟩
instance : Stp (tIfS t s1 s2 D σ H) (t σ H fun b H1 => if b = true then s1 D σ H1 else s2 D σ H1) := ⟨k_if⟩
instance [e : Slot σ i v] : Stp (tVar i σ H Q) (Q v H) := ⟨fun h => k_var e.get h⟩
instance : Stp (tC v σ H Q) (Q v H) := ⟨k_c⟩
instance {r : R2} : Stp (tOp r ta tb σ H Q) (ta σ H fun x H1 => tb σ H1 fun y H2 => r x y H2 Q) := ⟨k_op⟩
instance {r : V → Hp → VK → Prop} : Stp (tUn r ta σ H Q) (ta σ H fun x H1 => r x H1 Q) := ⟨k_un⟩
instance : Stp (xAdd (.int a) (.int b) H Q) (Q (.int (a + b)) H) := ⟨k_add⟩
instance : Stp (xSub (.int a) (.int b) H Q) (Q (.int (a - b)) H) := ⟨k_sub⟩
instance : Stp (xLt (.int a) (.int b) H Q) (Q (.bl (decide (a < b))) H) := ⟨k_lt⟩
instance : Stp (xLe (.int a) (.int b) H Q) (Q (.bl (decide (a ≤ b))) H) := ⟨k_le⟩
instance : Stp (xGt (.int a) (.int b) H Q) (Q (.bl (decide (b < a))) H) := ⟨k_gt⟩
instance : Stp (xGe (.int a) (.int b) H Q) (Q (.bl (decide (b ≤ a))) H) := ⟨k_ge⟩
instance : Stp (xNeg (.int a) H Q) (Q (.int (-a)) H) := ⟨k_neg⟩
instance : Stp (rEq (.int a) (.int b) H Q) (Q (.bl (decide (a = b))) H) := ⟨k_eqI⟩
instance : Stp (rNe (.int a) (.int b) H Q) (Q (.bl (!decide (a = b))) H) := ⟨k_neI⟩
instance {a b : Bool} : Stp (rEq (.bl a) (.bl b) H Q) (Q (.bl (decide (a = b))) H) := ⟨k_eqB⟩
instance {a b : Bool} : Stp (rNe (.bl a) (.bl b) H Q) (Q (.bl (!decide (a = b))) H) := ⟨k_neB⟩
theorem k_eqNN (h : Q (.bl true) H) : rEq .non .non H Q := ⟨rfl, h⟩
theorem k_isN0 (h : Q (.bl true) H) : xIsN .non .non H Q := ⟨rfl, h⟩
theorem k_isNr {p : Addr} (h : Q (.bl false) H) : xIsN (.ref p) .non H Q := ⟨rfl, by rw [decide_eq_false (by intro z; cases z)]; exact h⟩
theorem k_isNi (h : Q (.bl false) H) : xIsN (.int a) .non H Q := ⟨rfl, by rw [decide_eq_false (by intro z; cases z)]; exact h⟩
theorem k_notN0 (h : Q (.bl false) H) : xNotN .non .non H Q := ⟨rfl, h⟩
theorem k_notNr {p : Addr} (h : Q (.bl true) H) : xNotN (.ref p) .non H Q := ⟨rfl, by rw [decide_eq_false (by intro z; cases z)]; exact h⟩
theorem k_notNi (h : Q (.bl true) H) : xNotN (.int a) .non H Q := ⟨rfl, by rw [decide_eq_false (by intro z; cases z)]; exact h⟩
instance : Stp (xIsN .non .non H Q) (Q (.bl true) H) := ⟨k_isN0⟩
instance {p : Addr} : Stp (xIsN (.ref p) .non H Q) (Q (.bl false) H) := ⟨k_isNr⟩
instance : Stp (xIsN (.int a) .non H Q) (Q (.bl false) H) := ⟨k_isNi⟩
instance : Stp (xNotN .non .non H Q) (Q (.bl false) H) := ⟨k_notN0⟩
instance {p : Addr} : Stp (xNotN (.ref p) .non H Q) (Q (.bl true) H) := ⟨k_notNr⟩
instance : Stp (xNotN (.int a) .non H Q) (Q (.bl true) H) := ⟨k_notNi⟩
instance : Stp (tTest te σ H QT) (te σ H fun x H1 => ∃ k, x = .bl k ∧ QT k H1) := ⟨k_test⟩
instance : Stp (tB te σ H QT) (te σ H fun x H1 => ∃ k, x = .bl k ∧ QT k H1) := ⟨k_B⟩
instance {b : Bool} {R : Bool → Prop} : Stp (∃ k, V.bl b = .bl k ∧ R k) (R b) := ⟨k_bl⟩
instance {R : Int → Prop} : Stp (∃ j, V.int a = .int j ∧ R j) (R a) := ⟨k_int⟩
instance {R : Int → Int → Prop} : Stp (∃ i' j', V.int a = .int i' ∧ V.int b = .int j' ∧ R i' j') (R a b) := ⟨k_int2⟩
instance : Stp (tAnd t u σ H QT) (t σ H fun c H1 => if c = true then u σ H1 QT else QT false H1) := ⟨k_and⟩
instance : Stp (tOr t u σ H QT) (t σ H fun c H1 => if c = true then QT true H1 else u σ H1 QT) := ⟨k_or⟩
instance : Stp (tNot t σ H QT) (t σ H fun c H1 => QT (!c) H1) := ⟨k_not⟩
instance : Stp (tNotV ta σ H Q) (ta σ H fun x H1 => ∃ c, x = .bl c ∧ Q (.bl (!c)) H1) := ⟨k_notV⟩
instance : Stp (tAndV ta tb σ H Q) (ta σ H fun x H1 => ∃ c, x = .bl c ∧ if c = true then tb σ H1 Q else Q (.bl false) H1) := ⟨k_andV⟩
instance : Stp (tOrV ta tb σ H Q) (ta σ H fun x H1 => ∃ c, x = .bl c ∧ if c = true then Q (.bl true) H1 else tb σ H1 Q) := ⟨k_orV⟩
instance {r : List V → Hp → VK → Prop} : Stp (tCB r tr σ H Q) (tr σ H fun vs H1 => r vs H1 Q) := ⟨k_cb⟩
instance : Stp (tNil σ H QA) (QA [] H) := ⟨k_nil⟩
instance : Stp (tCons ta tr σ H QA) (ta σ H fun x H1 => tr σ H1 fun xs H2 => QA (x :: xs) H2) := ⟨k_cons⟩
instance {sp : Sp} {E : XK} : Stp (tCall sp [] E tr σ H Q) (tr σ H fun vs H1 => sp vs H1 Q E) := ⟨fun h => k_call (by simpa only [List.append_nil] using h)⟩
instance : Stp (tLst tr σ H Q) (tr σ H fun xs H1 => newL xs H1 Q) := ⟨k_lst⟩
instance : Stp (tTup tr σ H Q) (tr σ H fun xs H1 => newT xs H1 Q) := ⟨k_tup⟩
instance {r : List V} : Stp (gCons g gs (v :: r) σ H QS) (g v σ H fun σ' H' => gs r σ' H' QS) := ⟨k_gcons⟩
instance : Stp (gNil [] σ H QS) (QS σ H) := ⟨k_gnil⟩
instance [e : Put σ i (some v) σ'] : Stp (gName i v σ H QS) (QS σ' H) := ⟨fun h => k_gname (by rw [e.eq]; exact h)⟩
instance {ts : TSet} : Stp (gSub to ti ts v σ H QS) (to σ H fun o H1 => ti σ H1 fun i H2 => ts o i v H2 fun H3 => QS σ H3) := ⟨k_gsub⟩
instance : Stp (rMax2 [.int a, .int b] H Q) (Q (.int (if b > a then b else a)) H) := ⟨k_max2⟩
instance : Stp (rMin2 [.int a, .int b] H Q) (Q (.int (if b < a then b else a)) H) := ⟨k_min2⟩
instance {T : String} {r : V → List V → Hp → VK → Prop} : Stp (tBM K T r ta tr σ H Q) (ta σ H fun x H1 => tyV K T x H1 ∧ tr σ H1 fun xs H2 => r x xs H2 Q) := ⟨k_bm⟩
instance {T : String} {r : V → List V → Hp → VK → Prop} : Stp (tBM0 K T r ta σ H Q) (ta σ H fun x H1 => tyV K T x H1 ∧ r x [] H1 Q) := ⟨k_bm0⟩
instance {A B : Prop} {i : Decidable (true = true)} : Stp (@ite Prop (true = true) i A B) A := ⟨fun h => by rw [if_pos rfl]; exact h⟩
instance {A B : Prop} {i : Decidable (false = true)} : Stp (@ite Prop (false = true) i A B) B := ⟨fun h => by rw [if_neg (by simp)]; exact h⟩
instance {A B : Prop} {i : Decidable ((!true) = true)} : Stp (@ite Prop ((!true) = true) i A B) B := ⟨fun h => by rw [if_neg (by simp)]; exact h⟩
instance {A B : Prop} {i : Decidable ((!false) = true)} : Stp (@ite Prop ((!false) = true) i A B) A := ⟨fun h => by rw [if_pos (by simp)]; exact h⟩
instance : Stp (tFor wi g tS ⟨nx, rt, bk, ct⟩ σ H) (wi σ H fun J H1 => ∃ W : Nat → Nat → L2.St → Hp → Prop, (∃ m, W 0 m σ H1) ∧ ∀ i m σ H, W i m σ H →
  (J.stop i H ∧ nx σ H) ∨ (J.go i H ∧ ∃ N : L2.St → Hp → Prop, (∀ σ' H', N σ' H' → ∃ m', m' < m ∧ W (i + 1) m' σ' H') ∧ ∀ x H', J.yld i H x H' → g x σ H' fun σ2 H2 => tS ⟨N, rt, nx, N⟩ σ2 H2)) := ⟨k_for⟩
instance {R : It → Hp → Prop} : Stp (iList K te σ H R) (te σ H fun x H1 => ∃ a, x = .ref a ∧ (∃ xs, SqL K H1 a xs) ∧ R (Itl K a) H1) := ⟨k_iList⟩
instance {R : It → Hp → Prop} : Stp (iTup K te σ H R) (te σ H fun x H1 => ∃ a, x = .ref a ∧ (∃ xs, SqT K H1 a xs) ∧ R (Itt K a) H1) := ⟨k_iTup⟩
instance {R : It → Hp → Prop} : Stp (iZip K tr σ H R) (tr σ H fun vs H1 => ∃ a b xs ys, vs = [.ref a, .ref b] ∧ SqL K H1 a xs ∧ SqL K H1 b ys ∧ R (Itz K a b) H1) := ⟨k_iZip⟩
instance {R : It → Hp → Prop} : Stp (iEnum K tr σ H R) (tr σ H fun vs H1 => ∃ a xs, vs = [.ref a] ∧ SqL K H1 a xs ∧ R (Ite K a) H1) := ⟨k_iEnum⟩
instance {R : It → Hp → Prop} : Stp (iRng1 tr σ H R) (tr σ H fun vs H1 => ∃ j : Int, vs = [.int j] ∧ -(2 ^ 62) ≤ j ∧ j < 2 ^ 62 ∧ R (Itr 0 j.toNat) H1) := ⟨k_iRng1⟩
instance {R : It → Hp → Prop} : Stp (iRng2 tr σ H R) (tr σ H fun vs H1 => ∃ i j : Int, vs = [.int i, .int j] ∧ (-(2 ^ 62) ≤ i ∧ i < 2 ^ 62 ∧ -(2 ^ 62) ≤ j ∧ j < 2 ^ 62) ∧ R (Itr i (j - i).toNat) H1) := ⟨k_iRng2⟩
instance {vs : List Nat} : Stp (tLc wi g t te vs σ H Q) (wi σ H fun J H1 => ∀ D, H1 D = none → ∃ W : Nat → Nat → Hp → Prop, (∃ m, W 0 m (upd H1 D (.lst []))) ∧ ∀ i m H, W i m H →
  (J.stop i H ∧ Q (.ref D) H) ∨ (J.go i H ∧ ∃ Nx : Hp → Prop, (∀ H', Nx H' → ∃ m', m' < m ∧ W (i + 1) m' H') ∧ ∀ x H', J.yld i H x H' → g x (wipe σ vs) H' fun σ2 H2 => wipe σ2 vs = wipe σ vs ∧ t σ2 H2 fun b H3 =>
    if b = true then te σ2 H3 fun y H4 => ∃ acc, H4 D = some (.lst acc) ∧ acc.length < sizeLine ∧ Nx (upd H4 D (.lst (acc ++ [y]))) else Nx H3)) := ⟨k_lc⟩
instance : Stp (tYes σ H QT) (QT true H) := ⟨k_yes⟩
instance {r : V → Option Int → Option Int → Hp → VK → Prop} {tl th : TO} : Stp (tSl r te tl th σ H Q) (te σ H fun x H1 => tl σ H1 fun l H2 => th σ H2 fun u H3 => r x l u H3 Q) := ⟨k_sl⟩
instance {QO : Option Int → Hp → Prop} : Stp (tNoPart σ H QO) (QO none H) := ⟨k_nopart⟩
instance {QO : Option Int → Hp → Prop} : Stp (tPart te σ H QO) (te σ H fun x H1 => ∃ i, x = .int i ∧ QO (some i) H1) := ⟨k_part⟩
instance {tg : L2.St → Hp → (Int → Int → Hp → Prop) → Prop} : Stp (tLstRg tg σ H Q) (tg σ H fun a b H1 => newR a b H1 Q) := ⟨k_listRg⟩
instance {QR : Int → Int → Hp → Prop} : Stp (tRg1 ta σ H QR) (ta σ H fun x H1 => ∃ n, x = .int n ∧ QR 0 n H1) := ⟨k_rg1⟩
instance {QR : Int → Int → Hp → Prop} : Stp (tRg2 ta tb σ H QR) (ta σ H fun x H1 => tb σ H1 fun y H2 => ∃ i j, x = .int i ∧ y = .int j ∧ QR i j H2) := ⟨k_rg2⟩
instance : Stp (rIsi K [.int a, .ty "int"] H Q) (Q (.bl true) H) := ⟨k_isiI⟩
instance : Stp (rIsi K [.int a, .ty "bool"] H Q) (Q (.bl false) H) := ⟨k_isiB⟩
instance : Stp (rIsi K [.int a, .ty "list"] H Q) (Q (.bl false) H) := ⟨k_isiLI⟩
instance {b : Bool} : Stp (rIntOf [.bl b] H Q) (Q (.int (if b then 1 else 0)) H) := ⟨k_intB⟩
theorem k_chain {r r' : R2} (h : ta σ H fun x H1 => tb σ H1 fun y H2 => r x y H2 fun z H3 => ∃ k, z = .bl k ∧ if k = true then tc σ H3 fun z H4 => r' y z H4 Q else Q (.bl false) H3) : tChain r r' ta tb tc σ H Q := h
instance {r r' : R2} : Stp (tChain r r' ta tb tc σ H Q) (ta σ H fun x H1 => tb σ H1 fun y H2 => r x y H2 fun z H3 => ∃ k, z = .bl k ∧ if k = true then tc σ H3 fun z H4 => r' y z H4 Q else Q (.bl false) H3) := ⟨k_chain⟩
theorem k_ifE (h : t σ H fun c H1 => if c = true then ta σ H1 Q else tb σ H1 Q) : tIf t ta tb σ H Q := h
instance : Stp (tIf t ta tb σ H Q) (t σ H fun c H1 => if c = true then ta σ H1 Q else tb σ H1 Q) := ⟨k_ifE⟩
def par2 (i j : Nat) (vs : List V) (σ : L2.St) (H : Hp) (nx : L2.St → Hp → Prop) : Prop := ∃ v w, vs = [v, w] ∧ nx ((σ.set i (some v)).set j (some w)) H
instance : Stp (tPar i j tr ⟨nx, rt, bk, ct⟩ σ H) (tr σ H fun vs H1 => par2 i j vs σ H1 nx) := ⟨fun h => h⟩
instance {σ'' : L2.St} [e : Put σ i (some v) σ'] [e2 : Put σ' j (some w) σ''] : Stp (par2 i j [v, w] σ H nx) (nx σ'' H) := ⟨fun h => ⟨v, w, rfl, by rw [e.eq, e2.eq]; exact h⟩⟩
end
/-! ### bits -/
def xShl : R2 := rI CPow fun i j => .int (i * 2 ^ j.toNat)
def xAnd : R2 := rI0 fun i j => .int (Builtin.bitAnd i j)
theorem k_shl {H : Hp} {Q : VK} {i j : Int} (hc : CPow i j) (h : Q (.int (i * 2 ^ j.toNat)) H) : xShl (.int i) (.int j) H Q := ⟨i, j, rfl, rfl, hc, h⟩
instance {H : Hp} {Q : VK} {i j : Int} : Stp (xAnd (.int i) (.int j) H Q) (Q (.int (Builtin.bitAnd i j)) H) := ⟨fun h => ⟨i, j, rfl, rfl, h⟩⟩
/-! ### list.count of flat values -/
def cntV (y : V) (ys : List V) : Nat := ys.countP fun z => eqV z y
def rCntV (K : PySem.W.Frag) : V → List V → Hp → VK → Prop := fun x xs H Q => ∃ (a : Addr) (ys : List V) (y : V), x = V.ref a ∧ xs = [y] ∧ SqL K H a ys ∧ flatV y = true ∧ ys.all flatV = true ∧ Q (.int (cntV y ys : Nat)) H
theorem cntV_eq {y : V} : ∀ {ys : List V} {its : List Value}, Vals ys its → ys.all flatV = true → its.countP (eqU y) = cntV y ys
  | _, _, .nil, _ => rfl
  | a :: as, _ :: _, .cons r rs, f => by
    have f1 : flatV a = true ∧ as.all flatV = true := by simpa using f
    unfold cntV
    rw [List.countP_cons, List.countP_cons, eqU_of r f1.1, cntV_eq rs f1.2]
    rfl
theorem mt_lcountV {X : Cx} : MtR X "list.count" (rCntV X.K) := by
  intro pins s σ H x xs v us Q I rx rxs h
  obtain ⟨a, ys, y, rfl, rfl, hs, fy, fys, q⟩ := h
  cases rx
  cases rxs with
  | cons ry rt =>
    rename_i uy ut
    cases rt
    obtain ⟨its, rv, ⟨⟨cls, dd, data, sl⟩, n, ho, hc, hdn, hd⟩, hlen⟩ := I.list hs
    simp only at hc hd
    subst hc hd
    refine call_meets PySem.F.slot_list_count ⟨_, ho, rfl⟩ PySem.F.entry_list_count (PySem.F.args_list_count_2 _ _)
      (SeqAt.list_countAt a its.toArray n dd sl uy (eqU y)) ⟨ho, fun u' hu' => mem_eqAt ry fy rv fys u' (by simpa using hu'), ?_⟩
    have ec : its.toArray.toList.countP (eqU y) = cntV y ys := cntV_eq rv fys
    refine ⟨.int (cntV y ys : Nat), H, I.tok _, ⟨s.toks, ?_⟩, q⟩
    show Value.int ((its.toArray.toList.countP (eqU y) : Nat) : Int) s.toks = Value.int ((cntV y ys : Nat) : Int) s.toks
    rw [ec]
section
variable {K : PySem.W.Frag} {H : Hp} {Q : VK}
theorem k_catN {p q : Addr} {xs ys : List V} (hp : H p = some (.lst xs)) (hq : H q = some (.lst ys)) (hz : xs.length + ys.length ≤ 100000) (h : ∀ l H', H l = none → Same H H' → H' l = some (.lst (xs ++ ys)) → Q (.ref l) H') : rCat (.ref p) (.ref q) H Q := k_cat hp hq hz fun l nl => h l _ nl (same_new nl) upd_same
theorem k_cntV {p : Addr} {ys : List V} {y : V} (hs : SqL K H p ys) (fy : flatV y = true) (fys : ys.all flatV = true) (h : Q (.int (cntV y ys : Nat)) H) : rCntV K (.ref p) [y] H Q := ⟨p, ys, y, rfl, rfl, hs, fy, fys, h⟩
theorem k_indexV {p : Addr} {ys : List V} {y z : V} {j : Nat} (hs : SqL K H p ys) (fy : flatV y = true) (fys : ys.all flatV = true) (hj : ys[j]? = some z) (hz : eqV z y = true) (hn : ∀ (m : Nat) (z' : V), m < j → ys[m]? = some z' → eqV z' y = false) (h : Q (.int (j : Nat)) H) : rIndex K (.ref p) [y] H Q := ⟨p, ys, y, j, z, rfl, rfl, hs, fy, fys, hj, hz, hn, h⟩
theorem k_sortedN {a : Addr} {ns : List Int} (hs : SqL K H a (ns.map V.int)) (h : ∀ (ns' : List Int) (p : Addr) H', ns'.Perm ns → ns'.Pairwise (· ≤ ·) → H p = none → Same H H' → H' p = some (.lst (ns'.map V.int)) → Q (.ref p) H') : rSortedI K [.ref a] H Q := k_sortedI hs fun ns' p h1 h2 h3 => h ns' p _ h1 h2 h3 (same_new h3) upd_same
end
/-! ### facts of older heaps -/
theorem hid_back {S : List Addr} {X Y : Hp} (h : Same X (hid S Y)) : Same X Y := h.trans (hid_same S Y)
theorem at_same {X Y : Hp} {p : Addr} {o : HO} (h : X p = some o) (s : Same X Y) : Y p = some o := s _ _ h
theorem sl_at {K : PySem.W.Frag} {X Y : Hp} {p : Addr} {xs : List V} (h : X p = some (.lst xs)) (s : Same X Y) : SqL K Y p xs := sl (s _ _ h)
theorem st_at {K : PySem.W.Frag} {X Y : Hp} {p : Addr} {xs : List V} (h : X p = some (.tup xs)) (s : Same X Y) : SqT K Y p xs := stp (s _ _ h)
theorem dpI_at {K : PySem.W.Frag} {X Y : Hp} {p : Addr} {ns : List Int} (h : X p = some (.lst (ns.map V.int))) (s : Same X Y) : Dp K Y (.ref p) (dInts ns) := dp_of_ints (sl (s _ _ h))
theorem dpP_at {K : PySem.W.Frag} {X Y : Hp} {p : Addr} {a b : Int} (h : X p = some (.tup [.int a, .int b])) (s : Same X Y) : Dp K Y (.ref p) (dPair (a, b)) := dp_of_pair (stp (s _ _ h))
theorem hid_free {S : List Addr} {H : Hp} (f : ∀ a ∈ S, H a = none) : Same H (hid S H) := fun b o hb => by
  rw [hid_ne fun z => by rw [f b z] at hb; cases hb]; exact hb
theorem hid_free1 {p : Addr} {H : Hp} (f : H p = none) : Same H (hid [p] H) := hid_free (free1 f)
theorem cut_to (xs : List V) (k : Nat) : cutV xs none (some (k : Int)) = xs.take k := by
  unfold cutV
  rw [HT.sIx_none, HT.sIx_nat, List.drop_zero, Nat.sub_zero]
  by_cases h : k ≤ xs.length
  · rw [Nat.min_eq_left h]
  · rw [Nat.min_eq_right (by omega), List.take_of_length_le (by simp), List.take_of_length_le (by omega)]
theorem cut_from (xs : List V) (k : Nat) : cutV xs (some (k : Int)) none = xs.drop k := by
  unfold cutV
  rw [HT.sIx_none, HT.sIx_nat]
  by_cases h : k ≤ xs.length
  · rw [Nat.min_eq_left h]
    exact List.take_of_length_le (by simp)
  · rw [Nat.min_eq_right (by omega), List.drop_of_length_le (Nat.le_refl _), List.drop_of_length_le (by omega), List.take_nil]
theorem dpa_take {K : PySem.W.Frag} {H : Hp} : ∀ {vs : List V} {ds : List PyData} (n : Nat), DpAll K H vs ds → DpAll K H (vs.take n) (ds.take n)
  | _, _, 0, _ => by simp only [List.take_zero]; exact .nil
  | _, _, n + 1, .nil => by simp only [List.take_nil]; exact .nil
  | _, _, n + 1, .cons h r => .cons h (dpa_take n r)
theorem dpa_drop {K : PySem.W.Frag} {H : Hp} : ∀ {vs : List V} {ds : List PyData} (n : Nat), DpAll K H vs ds → DpAll K H (vs.drop n) (ds.drop n)
  | _, _, 0, h => h
  | _, _, n + 1, .nil => by simp only [List.drop_nil]; exact .nil
  | _, _, n + 1, .cons _ r => dpa_drop n r
theorem Le.at {H H' : Hp} {pu p : Addr} {k : Int} {o : HO} (L : Le H pu k) (np : H p = none) (e : H' p = some o) : hid [pu] H' p = some o := by rw [hid_ne (L.fresh np)]; exact e
theorem hat {H : Hp} {pu p : Addr} {o : HO} (np : p ∉ [pu]) (e : H p = some o) : hid [pu] H p = some o := by rw [hid_ne np]; exact e
theorem kLp {xs : List V} {H : Hp} {Q : VK} {pu : Addr} {k : Int} (L : Le H pu k) (hn : xs.length ≤ 100000) (h : ∀ p H', H p = none → Same H H' → hid [pu] H' p = some (.lst xs) → Q (.ref p) H') : newL xs H Q := ⟨sz hn, fun p np => h p _ np (same_new np) (L.at np upd_same)⟩
theorem kTp {xs : List V} {H : Hp} {Q : VK} {pu : Addr} {k : Int} (L : Le H pu k) (hn : xs.length ≤ 100000) (h : ∀ p H', H p = none → Same H H' → hid [pu] H' p = some (.tup xs) → Q (.ref p) H') : newT xs H Q := ⟨sz hn, fun p np => h p _ np (same_new np) (L.at np upd_same)⟩
theorem sh_l2 {n : Nat} {c d : PyData} (h1 : Sh n c) (h2 : Sh n d) : Sh (n + 1) (.list [c, d]) := sh_list fun x hx => by
  rcases List.mem_cons.mp hx with rfl | hx
  · exact h1
  · rcases List.mem_cons.mp hx with rfl | hx
    · exact h2
    · cases hx
section
variable {K : PySem.W.Frag} {σ : L2.St} {H1 : Hp} {Q : VK} {g : TG} {tt : TT} {te : TE} {vs : List Nat}
/-- over a range, new objects may be made -/
theorem lc_growR {QD : Addr → Hp → Prop} {lo : Int} {n : Nat} (hz : n ≤ 50000) (f : Nat → Option V)
    (step : ∀ (i : Nat) H', i < n → Same H1 H' → ∀ (R : V → Hp → Prop) (R0 : Hp → Prop), (∀ y H'', f i = some y → Same H' H'' → R y H'') → (∀ H'', f i = none → Same H' H'' → R0 H'') →
      g (.int (lo + (i : Nat))) (wipe σ vs) H' fun σ2 H2 => wipe σ2 vs = wipe σ vs ∧ tt σ2 H2 fun b H3 => if b = true then te σ2 H3 R else R0 H3)
    (h : ∀ D H', H1 D = none → Same H1 H' → H' D = some (.lst ((List.range n).filterMap f)) → QD D H') :
    ∀ D, H1 D = none → ∃ W : Nat → Nat → Hp → Prop, (∃ m, W 0 m (upd H1 D (.lst []))) ∧ ∀ i m H, W i m H →
      ((Itr lo n).stop i H ∧ QD D H) ∨ ((Itr lo n).go i H ∧ ∃ Nx : Hp → Prop, (∀ H', Nx H' → ∃ m', m' < m ∧ W (i + 1) m' H') ∧ ∀ x H', (Itr lo n).yld i H x H' → g x (wipe σ vs) H' fun σ2 H2 => wipe σ2 vs = wipe σ vs ∧ tt σ2 H2 fun b H3 =>
        if b = true then te σ2 H3 fun y H4 => ∃ acc, H4 D = some (.lst acc) ∧ acc.length < sizeLine ∧ Nx (upd H4 D (.lst (acc ++ [y]))) else Nx H3) := by
  refine fun D nD => lc_range (fun i H => Same H1 H ∧ H D = some (.lst (((List.range n).take i).filterMap f))) ⟨same_new nD, by rw [upd_same]; simp⟩ ?_ ?_
  · rintro i H hi ⟨sm, hD⟩
    have tk := take_filterMap (f := f) (range_take hi)
    refine step i H hi sm _ _ (fun y H'' hy s2 => ⟨_, s2 _ _ hD, szl ?_, same_mut (sm.trans s2) nD, ?_⟩) (fun H'' hn s2 => ⟨sm.trans s2, ?_⟩)
    · have := List.length_filterMap_le f ((List.range n).take i)
      rw [List.length_take, List.length_range] at this
      omega
    · rw [upd_same, tk, hy]; rfl
    · rw [tk, hn, s2 _ _ hD]; simp
  · rintro H ⟨sm, hD⟩
    rw [List.take_of_length_le (by simp)] at hD
    exact h D H nD sm hD
end
/-- behind an if: what follows is shown once -/
theorem ifjoin {c : Bool} {σ : L2.St} {H : Hp} {s1 s2 : TS} {nx bk ct : L2.St → Hp → Prop} {rt : VK} (G : L2.St → Hp → Prop) (main : ∀ σ H, G σ H → nx σ H) (h : (∀ σ H, G σ H → nx σ H) → if c = true then s1 ⟨nx, rt, bk, ct⟩ σ H else s2 ⟨nx, rt, bk, ct⟩ σ H) : if c = true then s1 ⟨nx, rt, bk, ct⟩ σ H else s2 ⟨nx, rt, bk, ct⟩ σ H := h main
theorem k_repN {H : Hp} {Q : VK} {p : Addr} {xs : List V} {k : Int} (hp : H p = some (.lst xs)) (h0 : 0 ≤ k) (h1 : k < 100000) (h2 : xs.length * k.toNat ≤ 100000) (h : ∀ l H', H l = none → Same H H' → H' l = some (.lst (List.replicate k.toNat xs).flatten) → Q (.ref l) H') : rRep (.ref p) (.int k) H Q := k_rep hp h0 h1 h2 fun l nl => h l _ nl (same_new nl) upd_same
theorem ixN_last {n : Nat} (h : 0 < n) : ixN n (-1) = some (n - 1) := by
  unfold ixN
  rw [if_neg (by omega)]
  split
  · simp; omega
  · omega
theorem ifsjoin {t : TT} {σ : L2.St} {H : Hp} {s1 s2 : TS} {nx bk ct : L2.St → Hp → Prop} {rt : VK} (G : L2.St → Hp → Prop) (main : ∀ σ H, G σ H → nx σ H) (h : (∀ σ H, G σ H → nx σ H) → tIfS t s1 s2 ⟨nx, rt, bk, ct⟩ σ H) : tIfS t s1 s2 ⟨nx, rt, bk, ct⟩ σ H := h main
/-- over a list or a tuple -/
def iAny (w1 w2 : TI) : TI := fun σ H R => w1 σ H R ∨ w2 σ H R
theorem pi_any {X : Cx} {tg it : Expr} {w1 w2 : TI} (h1 : PI X tg it w1) (h2 : PI X tg it w2) : PI X tg it (iAny w1 w2) := ⟨fun pins s σ H R I h => by
  rcases h with h | h
  · exact h1.run pins s σ H R I h
  · exact h2.run pins s σ H R I h⟩
theorem k_inT2 {K : PySem.W.Frag} {H : Hp} {Q : VK} {p : Addr} {x a b : Int} (hs : SqT K H p [.int a, .int b]) (h : Q (.bl (decide (x = a ∨ x = b))) H) : rIn K false (.int x) (.ref p) H Q :=
  ⟨p, _, rfl, .inr hs, rfl, flat_ints [a, b], by
    rw [if_neg Bool.false_ne_true, show ([V.int a, .int b] : List V) = List.map V.int [a, b] from rfl, inV_ints]
    have e : decide (x ∈ [a, b]) = decide (x = a ∨ x = b) := by simp
    rw [e]; exact h⟩
theorem Pu.at {H H' : Hp} {pu ce p : Addr} {n : Nat} {t : Int} {o : HO} (L : Pu H pu ce n t) (np : H p = none) (e : H' p = some o) : hid [pu, ce] H' p = some o := by rw [hid_ne (L.fresh np)]; exact e
theorem kLq {xs : List V} {H : Hp} {Q : VK} {pu ce : Addr} {n : Nat} {t : Int} (L : Pu H pu ce n t) (hn : xs.length ≤ 100000) (h : ∀ p H', H p = none → Same H H' → hid [pu, ce] H' p = some (.lst xs) → Q (.ref p) H') : newL xs H Q := ⟨sz hn, fun p np => h p _ np (same_new np) (L.at np upd_same)⟩
theorem kTq {xs : List V} {H : Hp} {Q : VK} {pu ce : Addr} {n : Nat} {t : Int} (L : Pu H pu ce n t) (hn : xs.length ≤ 100000) (h : ∀ p H', H p = none → Same H H' → hid [pu, ce] H' p = some (.tup xs) → Q (.ref p) H') : newT xs H Q := ⟨sz hn, fun p np => h p _ np (same_new np) (L.at np upd_same)⟩
end Cm

namespace Cm
open PySem PySem.Spec PyProof.Rows L2

/-! ### a caught exception that is kept as a value -/
def ExV (cls : Value) (d : Option Addr) (a : Addr) : HO := .ext fun h => ∃ (oe : Obj) (vs : Array Value), h.get? a = some oe ∧ Zc cls d oe ∧ oe.data = .fields vs
theorem exV_ok {P : Program} {w : World} {H : Hp} {h : Heap} {a : Addr} {cls : Value} {d : Option Addr} {oe : Obj} {vs : Array Value} (he : h.get? a = some oe) (hz : Zc cls d oe) (hd : oe.data = .fields vs) : ObjOk P w H h a (ExV cls d a) :=
  ⟨⟨oe, vs, he, hz, hd⟩, ⟨oe, he⟩, fun h1 h2 ⟨o1, v1, g1, g2, g3⟩ k => ⟨o1, v1, k _ g1, g2, g3⟩⟩
theorem exV_at {P : Program} {w : World} {H : Hp} {h : Heap} {a : Addr} {cls : Value} {d : Option Addr} (hok : HOk P w H h) (e : H a = some (ExV cls d a)) : ∃ (oe : Obj) (vs : Array Value), h.get? a = some oe ∧ Zc cls d oe ∧ oe.data = .fields vs :=
  (hok a _ e).1
section
variable {X : Cx} {pins : List (Addr × Obj)} {σ : L2.St} {H : Hp} {s : Shared}
/-- an object of this def's own time is taken into sight -/
theorem track {a : Addr} {cls : Value} {d : Option Addr} {oe : Obj} {vs : Array Value} (I : Inv X pins σ H s) (he : s.heap.get? a = some oe) (hz : Zc cls d oe) (hd : oe.data = .fields vs) (na : H a = none) (n0 : X.s_0.heap.get? a = none)
    (nL : a ≠ X.env.locals) (np : ∀ p ∈ X.pn ++ pins, p.1 ≠ a) : Inv X pins σ (upd H a (ExV cls d a)) s := by
  have ne : ∀ {b : Addr} {o : HO}, H b = some o → b ≠ a := fun q => ne_of_none q na
  have nb : ∀ b o, X.s_0.heap.get? b = some o → b ≠ a := fun b o q z => by rw [z, n0] at q; cases q
  refine { I with base := ?_, free := ?_, freeC := ?_, pin := ?_, hok := ?_ }
  · have B := I.base
    refine ⟨B.keep, B.slot, fun b o q n x => ?_, B.there, fun b xs q => ?_, fun b o u q => ?_, fun b ps q => ?_⟩
    · rw [upd_ne (nb b o q)]; exact B.free b o q n x
    · have z := B.tups b xs q; rw [upd_ne (ne z)]; exact z
    · have z := B.frzs b o u q; rw [upd_ne (ne z)]; exact z
    · obtain ⟨m, z⟩ := B.tbls b ps q; exact ⟨m, by rw [upd_ne (ne z)]; exact z⟩
  · rw [upd_ne nL.symm]; exact I.free
  · intro x c q
    have nc : c ≠ a := fun z => by
      obtain ⟨v, oc, g1, g2⟩ := I.cell x c q
      rw [z, he] at g1
      cases g1
      rw [hd] at g2
      cases g2
    rw [upd_ne nc]; exact I.freeC x c q
  · intro p hp
    obtain ⟨g1, g2, g3⟩ := I.pin p hp
    exact ⟨g1, by rw [upd_ne (np p hp)]; exact g2, g3⟩
  · intro b u q
    by_cases hb : b = a
    · rw [hb] at q ⊢
      rw [upd_same] at q
      cases q
      exact exV_ok he hz hd
    · rw [upd_ne hb] at q
      exact (I.hok b u q).stay (fun _ _ _ z => z) (fun c z => by rw [upd_ne (ne z)]; exact z) fun c xs z => by rw [upd_ne (ne z)]; exact z
end
/-- what «except x as n: suite» wishes, the exception kept behind it -/
def wKept (K : PySem.W.Frag) (c : Value) (i : Nat) (ts : Addr → Value → Option Addr → TS) (Wout : WX) (D : Ends) : WX := fun cls d σ H =>
  ∃ b, PySem.W.exmOne K cls c = some b ∧
    (b = true → ∀ a, H a = none → ts a cls d ⟨fun σ' H' => D.nx (σ'.set i none) (upd H' a (ExV cls d a)), fun _ _ => False, fun _ _ => False, fun _ _ => False⟩ (σ.set i (some (.ref a))) H) ∧ (b = false → Wout cls d σ H)
section
variable {X : Cx} {x n : Str} {c : Value} {i : Nat} {body suite : List Stmt} {b0 : Stmt} {np pos pos' : Pos} {tb : WX → TS} {ts : Addr → Value → Option Addr → TS} {Wout : WX}
theorem ps_try_kept (hst : X.stack = X.env :: X.outer) (hfm : X.env.frame = some X.env.locals) (hex : X.ex = []) (hN : X.N.Nodup) (hi : X.N[i]? = some n) (hln : X.env.kindOf n = some .local) (hc : Names X x c) (tk : Takes X Wout)
    (hb : ∀ (W : WX) (pn : List (Addr × Obj)) (xe : Value → Shared → Prop), Takes (X.tr pn xe) W → PassesOwn (model X.prog X.w) X.A X.env xe → PSs (X.tr pn xe) body (tb W))
    (hsu : ∀ (a : Addr) (oe : Obj) (cls : Value) (d : Option Addr) (pn : List (Addr × Obj)), Zc cls d oe → (∃ vs, oe.data = .fields vs) → PSs (X.suite a ((a, oe) :: pn)) (b0 :: suite) (ts a cls d)) :
    PS X (.Try body [.ExceptHandler (some (.Name x np)) (some n) (b0 :: suite) pos'] [] [] pos) (fun D σ H => tb (wKept X.K c i ts Wout D) D σ H) := by
  constructor
  intro pins s σ H D I h
  have ok := I.ok
  have frm : X.A.frames = some (X.env :: X.outer) := by rw [← hst]; exact ok.frames
  refine wpAny_Try_except (wpAny_mono ((hb (wKept X.K c i ts Wout D) (X.pn ++ pins) _ (fun u s1 air => ?caught) PassesOwn.looking).run [] s σ H D (I.toTry _) h) (fun f s1 q => ?through) (fun e s1 q => q))
  case through =>
    cases f with
    | next => obtain ⟨σ1, H1, J, q⟩ := q; exact wpAny_execs_nil ⟨σ1, H1, J.ofTry ok, q⟩
    | brk => obtain ⟨σ1, H1, J, q⟩ := q; exact ⟨σ1, H1, J.ofTry ok, q⟩
    | cont => obtain ⟨σ1, H1, J, q⟩ := q; exact ⟨σ1, H1, J.ofTry ok, q⟩
    | ret u => obtain ⟨v, σ1, H1, J, r, q⟩ := q; exact ⟨v, σ1, H1, J.ofTry ok, r, q⟩
  case caught =>
    obtain ⟨a, B, sI, pins1, σ1, H1, cls, d, rfl, J0, ground, up, sky, na, os, bare, b, hcls, yes, no⟩ := air
    have J : Inv X pins σ1 H1 sI := J0.ofTry ok
    rw [show (X.tr (X.pn ++ pins) _).stack = X.stack from rfl, hst] at sky
    have Ba : B.get? a = none := by
      rcases sky with z | z | z
      · exact z.2.1
      · exact z.2.1
      · exact z.2.1
    show wpAny (model X.prog X.w) X.A (noteFrame (.ref a) X.env) _ _ _
    refine Sky.land Zc.steady frm hfm sky fun h2 fly up2 => ?_
    obtain ⟨o2, v2, g2, z2, d2⟩ := fly.there
    have J2 : Inv X pins σ1 H1 { s1 with heap := h2 } := J.landed ground fly.1 (up.trans up2) os bare
    have out : a ∉ frs (X.env :: X.outer) := fun hm => by
      obtain ⟨_, o', e', hnf⟩ := fly.2.2.1.mem hm
      rw [g2] at e'
      cases e'
      exact hnf _ d2
    have nL : a ≠ X.env.locals := fun z => out (List.mem_filterMap.mpr ⟨X.env, List.mem_cons_self, by rw [hfm, z]⟩)
    have nF : a ∉ X.fs := fun hm => by
      obtain ⟨e, he, q⟩ := List.mem_filterMap.mp hm
      exact out (List.mem_filterMap.mpr ⟨e, List.mem_cons_of_mem _ he, q⟩)
    have sIa : sI.heap.get? a = none := by
      cases q : sI.heap.get? a with
      | none => rfl
      | some o =>
        have := ground a o q (by rw [show (X.tr (X.pn ++ pins) _).stack = X.stack from rfl, hst]; exact out)
        rw [Ba] at this; cases this
    have n0 : X.s_0.heap.get? a = none := by
      cases q : X.s_0.heap.get? a with
      | none => rfl
      | some o =>
        obtain ⟨o', q'⟩ := J.base.there a o q (by rw [hex]; simp)
        rw [sIa] at q'; cases q'
    have pinNe : ∀ p ∈ X.pn ++ pins, p.1 ≠ a := fun p hp z => by
      have := (J.pin p hp).1
      rw [z, sIa] at this; cases this
    refine wpAny_handleBy_cons (codeAny_handlers_test ?_) (fun q => by cases q)
    have T2 := J2.suite g2 d2 na nL nF
    have ty : PySem.W.Looks (model X.prog X.w) h2 (typeOf (.ref a)) cls := fun _ _ _ _ k q => wpAny_typeOf_ref (k _ _ g2) (by rw [z2.1]; exact q)
    have named : ∀ {Q : Value → Shared → Prop} {E : Value → Shared → Prop}, Q c { s1 with heap := h2 } → wpAny (model X.prog X.w) (X.A.mark (some (.ref a))) (eval (.Name x np) X.env) Q E { s1 with heap := h2 } := fun {Q E} q => by
      obtain ⟨gl, db, hm | ⟨hm, hv, hn⟩⟩ := hc
      · exact ld_glob (X := X.suite a ((a, o2) :: (X.pn ++ pins))) T2 gl hm q db
      · exact ld_blt (X := X.suite a ((a, o2) :: (X.pn ++ pins))) T2 gl hm hv q hn db
    refine named ((PySem.W.exm_one (M := model X.prog X.w) J2.kIn ty hcls).here ?_)
    cases b with
    | false =>
      show wpAny _ X.A (handleBy (.ref a) X.env []) _ _ _
      refine wpAny_handleBy_nil ?_
      obtain ⟨_, _, _, oe, vs, T, oT, ts', he, hz, hd, h1, hr⟩ := id fly
      unfold PySem.passOn
      refine wpAny_bind (wpAny_field he hd h1 ?_)
      rw [if_neg (show ¬ ((Value.ref T == Value.none) = true) by simp)]
      have on : wpAny (model X.prog X.w) X.A (setFlight (.ref a) X.env.frame) (fun _ s4 => wpAny (model X.prog X.w) X.A (throw (.ref a) : Sem Flow) (SP X pins D) X.xe s4) X.xe { s1 with heap := h2 } := by
        rw [hfm]
        refine HandSPX.setFlight_upZ fly fun h4 hh4 up4 => wpAny_throw (tk _ _ ⟨a, B, sI, pins, σ1, H1, cls, d, rfl, J, ground, (up.trans up2).trans up4, .inr (.inr (by rw [hst]; exact hh4)), na, os, bare, no rfl⟩)
      first
        | exact wpAny_bind (wpAny_pure (wpAny_bind on))
        | exact wpAny_bind on
    | true =>
      refine codeAny_handlers_suite_as (HandSPX.lands_againZ fly fun h3 fly3 up3 => ?_)
      obtain ⟨o3, v3, g3, z3, d3⟩ := fly3.there
      have J3 : Inv X pins σ1 H1 { s1 with heap := h3 } := J.landed ground fly3.1 ((up.trans up2).trans up3) os bare
      refine store_ok (X := X.suite a ((a, o3) :: (X.pn ++ pins))) (v := .ref a) (J3.suite g3 d3 na nL nF) hN hi (.inl hln) rfl (fun s4 S4 => ?_) (.inr hln)
      refine wpAny_mono ((hsu a o3 cls d (X.pn ++ pins) z3 ⟨_, d3⟩).run [] s4 _ H1 _ S4 (yes rfl a na)) (fun f s5 q => ?_) (fun _ _ z => z.elim)
      cases f with
      | brk => obtain ⟨_, _, _, q⟩ := q; exact q.elim
      | cont => obtain ⟨_, _, _, q⟩ := q; exact q.elim
      | ret u => obtain ⟨_, _, _, _, _, q⟩ := q; exact q.elim
      | next =>
        obtain ⟨σ5, H5, S5, q5⟩ := q
        have K5 : Inv X ((a, o3) :: pins) σ5 H5 s5 := ⟨ok, S5.os, S5.bare, S5.base, S5.loc, S5.cell, S5.free, S5.freeC, fun p hp => S5.pin p (by
          rw [List.append_nil]
          rcases List.mem_append.mp hp with hp | hp
          · exact List.mem_cons_of_mem _ (List.mem_append_left _ hp)
          · rcases List.mem_cons.mp hp with hp | hp
            · rw [hp]; exact List.mem_cons_self
            · exact List.mem_cons_of_mem _ (List.mem_append_right _ hp)), S5.hok, S5.len⟩
        refine gone_ok K5 hN hi hln fun s6 K6 => ?_
        obtain ⟨g6, na6, _⟩ := K6.pin (a, o3) (List.mem_append_right _ List.mem_cons_self)
        have K7 : Inv X pins (σ5.set i none) H5 s6 := { K6 with pin := fun p hp => K6.pin p (by
          rcases List.mem_append.mp hp with hp | hp
          · exact List.mem_append_left _ hp
          · exact List.mem_append_right _ (List.mem_cons_of_mem _ hp)) }
        exact ⟨_, _, track K7 g6 z3 d3 na6 n0 nL pinNe, q5⟩
end

/-! ### isinstance of a kept exception, of None and of the other values -/
/-- what an exception class of the program must say, so that its instances are asked rightly -/
structure ExK (K : PySem.W.Frag) (D : Addr) : Prop where
  hg : PySem.W.findIn K (.ref D) "__getattribute__" = some (some (.builtin "BaseException.__getattribute__"))
  hk : PySem.W.findIn K (.ref D) "__getattr__" = some none
  hs : PySem.W.subIn K (.ref D) (.type "BaseException") = some true
  hd : PySem.W.hasDictIn K D = true
  ha : PySem.W.findIn K (.ref D) "__class__" = some (some (.builtin "object.__class__"))
  hn : PySem.W.specialIn K (.builtin "object.__class__") "__get__" = some (some (.builtin "getset_descriptor.__get__"))
  ht : PySem.W.takesIn K (.builtin "object.__class__") = some true
  hm : PySem.W.mroIn K D (.type "object") = some true
def exkB (K : PySem.W.Frag) (D : Addr) : Bool :=
  (PySem.W.findIn K (.ref D) "__getattribute__" == some (some (.builtin "BaseException.__getattribute__"))) && ((PySem.W.findIn K (.ref D) "__getattr__" == some none) && ((PySem.W.subIn K (.ref D) (.type "BaseException") == some true) && (PySem.W.hasDictIn K D &&
  ((PySem.W.findIn K (.ref D) "__class__" == some (some (.builtin "object.__class__"))) && ((PySem.W.specialIn K (.builtin "object.__class__") "__get__" == some (some (.builtin "getset_descriptor.__get__"))) && ((PySem.W.takesIn K (.builtin "object.__class__") == some true) && (PySem.W.mroIn K D (.type "object") == some true)))))))
theorem exkB_ok {K : PySem.W.Frag} {D : Addr} (h : exkB K D = true) : ExK K D := by
  unfold exkB at h
  simp only [Bool.and_eq_true, beq_iff_eq] at h
  obtain ⟨h1, h2, h3, h4, h5, h6, h7, h8⟩ := h
  exact ⟨h1, h2, h3, h4, h5, h6, h7, h8⟩
theorem ExK.xf {K : PySem.W.Frag} {D : Addr} (h : ExK K D) : XfC K D := ⟨h.hg, h.hk, h.hs, h.hd⟩
/-- what is known of a kept exception at a: its class D, its dict's state -/
def KeptAt (H : Hp) (a D : Addr) : Prop := ∃ d : Option Addr, H a = some (ExV (.ref D) d a) ∧ (d = none ∨ ∃ dd fs, d = some dd ∧ H dd = some (.xd fs))
def rIsX (K : PySem.W.Frag) : List V → Hp → VK → Prop := fun xs H Q => ∃ (a D : Addr) (c : V) (cv : Value) (b : Bool), xs = [.ref a, c] ∧ KeptAt H a D ∧ ExK K D ∧ ClsV c cv ∧ PySem.W.kitOne K (.ref D) cv = some b ∧ Q (.bl b) H
def rIsXT (K : PySem.W.Frag) : List V → Hp → VK → Prop := fun xs H Q => ∃ (a D tp : Addr) (cs : List V) (us : List Value) (b : Bool), xs = [.ref a, .ref tp] ∧ KeptAt H a D ∧ ExK K D ∧ H tp = some (.tup cs) ∧ Paired ClsV cs us ∧ PySem.W.kitAny K (.ref D) us = some b ∧ Q (.bl b) H
section
variable {X : Cx} {pins : List (Addr × Obj)} {σ : L2.St} {H : Hp} {s : Shared}
theorem kept_inst {a D : Addr} (I : Inv X pins σ H s) (k : KeptAt H a D) : ∃ ox od, PySem.W.InstAt s.heap a ox D od := by
  obtain ⟨d, e, dd⟩ := k
  obtain ⟨oe, vs, g, z, hd⟩ := exV_at I.hok e
  obtain ⟨oc, od, oda, osl⟩ := oe
  obtain ⟨h1, h2⟩ := z
  dsimp only at h1 h2 hd
  subst h1 h2 hd
  rcases dd with rfl | ⟨dx, fs, rfl, hx⟩
  · exact ⟨_, none, g, rfl, rfl, trivial⟩
  · obtain ⟨mA, ⟨o, es, ep, g2, _⟩, _⟩ := (show ObjOk X.prog X.w H s.heap dx (.xd fs) from I.hok dx _ hx)
    exact ⟨_, some o, g, rfl, rfl, g2⟩
theorem kit_exc {K : PySem.W.Frag} {a D : Addr} {ox : Obj} {od : Option Obj} (C : ExK K D) : PySem.W.KitX K (.ref a) (.ref D) (fun h => PySem.W.InstAt h a ox D od) := by
  have hcl : (PySem.W.clsIn K D).isSome = true := by
    obtain ⟨cd, hc, _⟩ := PySem.W.any_some C.hd
    rw [hc]; rfl
  exact PySem.W.kitx_exc hcl C.hg C.hk C.hs C.ha C.hn C.ht C.hm
theorem call_isX : CallR X (.builtin "isinstance") (rIsX X.K) := by
  intro pins s σ H xs us Q I r h
  obtain ⟨a, D, c, cv, b, rfl, k, C, kc, e, q⟩ := h
  obtain ⟨u1, u2, rfl, r1, r2⟩ := vals2 r
  have e2 := kc.eq r2
  subst e2
  cases (show u1 = Value.ref a from r1)
  obtain ⟨ox, od, J⟩ := kept_inst I k
  exact PySem.W.kia_one (kit_exc C) I.kIn J e (fun z => nomatch z) fun tk => ⟨.bl b, H, I.tok tk, rfl, q⟩
theorem call_isXT : CallR X (.builtin "isinstance") (rIsXT X.K) := by
  intro pins s σ H xs us Q I r h
  obtain ⟨a, D, tp, cs, ws, b, rfl, k, C, hT, kc, e, q⟩ := h
  obtain ⟨u1, u2, rfl, r1, r2⟩ := vals2 r
  cases (show u1 = Value.ref a from r1)
  cases (show u2 = Value.ref tp from r2)
  obtain ⟨ox, od, J⟩ := kept_inst I k
  obtain ⟨_, its, rv, o, h1, h2, n, h3⟩ := (show ObjOk X.prog X.w H s.heap tp (.tup cs) from I.hok tp _ hT)
  have e3 := ClsV.all kc rv
  subst e3
  obtain ⟨oc, od', dt, sl⟩ := o
  simp only at h2 h3
  subst h2 h3
  exact PySem.W.kia_tup (kit_exc C) I.kIn J h1 e (fun z => nomatch z) fun tk => ⟨.bl b, H, I.tok tk, rfl, q⟩
/-- isinstance of anything, one class or a tuple of them -/
def rIsA (K : PySem.W.Frag) : List V → Hp → VK → Prop := fun xs H Q => rIsi K xs H Q ∨ rIsiT K xs H Q ∨ rIsX K xs H Q ∨ rIsXT K xs H Q
theorem q_isA : CallR X (.builtin "isinstance") (rIsA X.K) := by
  intro pins s σ H xs us Q I r h
  rcases h with h | h | h | h
  · exact call_isi pins s σ H xs us Q I r h
  · exact call_isiT pins s σ H xs us Q I r h
  · exact call_isX pins s σ H xs us Q I r h
  · exact call_isXT pins s σ H xs us Q I r h
end

/-! ### a kept exception's field -/
def tXat (K : PySem.W.Frag) (n : Str) (te : TE) : TE := fun σ H Q => te σ H fun x H1 => ∃ (a C dd : Addr) (fs : List (Str × V)) (v : V), x = .ref a ∧ H1 a = some (ExV (.ref C) (some dd) a) ∧ XfC K C ∧ PySem.W.findIn K (.ref C) n = some none ∧ H1 dd = some (.xd fs) ∧ fs.lookup n = some v ∧ Q v H1
theorem pe_xat {X : Cx} {e : Expr} {te : TE} {pos : Pos} {n : Str} (he : PE X e te) (hb : attributeBase e n X.env (eval e X.env) = eval e X.env := by rfl) : PE X (.Attribute e n pos) (tXat X.K n te) := by
  constructor
  intro pins s σ H Q I h
  refine attr_of hb (thn (he.run pins s σ H _ I h) fun u s1 hh => ?_)
  obtain ⟨x, H1, I1, rx, a, C, dd, fs, v, rfl, ea, T, hno, ed, l, q⟩ := hh
  cases (show u = Value.ref a from rx)
  obtain ⟨oe, vs, g, z, hd⟩ := exV_at I1.hok ea
  obtain ⟨mA, hns, hr⟩ := (show ObjOk X.prog X.w H1 s1.heap dd (.xd fs) from I1.hok dd _ ed)
  obtain ⟨od, ho, hl⟩ := lookIn_ns hns
  obtain ⟨u, hu, ru⟩ := RelO.some_of (v := v) (o := mA n) (by rw [← l]; exact hr n)
  have J : PySem.W.InstAt s1.heap a oe C (some od) := ⟨g, z.1, by unfold PySem.W.notCls; rw [hd] <;> rfl, by rw [z.2]; exact ho⟩
  exact HandSPX.exc_get I1.kIn J T.ga T.gg T.exC (PySem.W.findObj_own T.hdC hno rfl (by rw [hl, hu])) (handed_of ru) ⟨v, H1, I1.tok _, ru, q⟩

/-! ### Base.__init__(self, ..) in an own exception's __init__, Base an own class without an __init__ -/
structure BaseI (K : PySem.W.Frag) (mg : Str → Option Value) (B : Addr) (x : Str) : Prop where
  gB : mg x = some (.ref B)
  rd : PySem.W.readsIn K B (.type "type") = true
  ga : PySem.W.specialIn K (.ref B) "__getattribute__" = some (some (.builtin "type.__getattribute__"))
  at_ : PySem.W.findCls K (.ref B) (.type "type") "__init__" = some (.val (.builtin "ValueError.__init__"))
theorem pe_binit {X : Cx} {x : Str} {B : Addr} {e : Expr} {es : List Expr} {ta : TA} {p1 p2 pos : Pos} {pl : Sem Bool} (T : BaseI X.K X.mg B x) (hg : Gl X x) (ha : PA X (e :: es) ta) (hdb : (x == ("__debug__" : Str)) = false := by decide)
    (hc : eval (.Call (.Attribute (.Name x p1) "__init__" p2) (e :: es) [] pos) X.env = (do
      let ov ← eval (.Name x p1) X.env
      standAt p2.atName
      let (f, first) ← holding [ov] (getMethod ov "__init__" pl)
      callWith pos f first (backTo pos (starEach (e :: es) X.env)) (backToKw pos (keywordEach [] X.env))) := by rfl)
    (he : starEach (e :: es) X.env = (false, eval e X.env) :: starEach es X.env := by rfl) (hpl : (backTo pos (starEach es X.env)).any (·.1) = false := by rfl) :
    PE X (.Call (.Attribute (.Name x p1) "__init__" p2) (e :: es) [] pos) (tVeI X.K ta) := by
  constructor
  intro pins s σ H Q I h
  refine PySem.W.methodCall_KW (ld_glob I hg T.gB ?_ hdb) hc
  refine PySem.W.method_cls I.kIn T.ga (PySem.W.cls_value I.kIn T.rd T.at_ (by decide +kernel) ?_)
  show wpAny _ _ (callWith pos (Value.builtin "ValueError.__init__") [] (backTo pos (starEach (e :: es) X.env)) []) _ _ _
  refine PyProof.Rows.callWith_method1 (thn (ha.run pos pins _ σ H _ (I.tok _) h) fun us s1 hh => ?_) he hpl
  obtain ⟨vs, H1, I1, r1, a, C, ws, rfl, hl, O, ea, q⟩ := hh
  cases r1 with
  | @cons _ u0 _ ur ra rr =>
    cases (show u0 = Value.ref a from ra)
    have len : ur.length ≤ sizeLine := by
      have := Paired.length rr
      rw [sizeLine_eq]
      omega
    exact oinit_ok O I1 ea len fun s' J => ⟨.non, H1, J, rfl, q⟩

/-! ### readings of raise, of an exception's own __init__ and of try, step by step -/
/-- raise C('..'), C without an __init__ -/
def tRaiseP (C : Addr) (E : XK) : TS := fun _ _ H => E (.ref C) none H
/-- raise C(e), C with an __init__ that keeps sp -/
def tRaiseO (C : Addr) (sp : Sp) (ta : TA) (E : XK) : TS := fun _ σ H => tMkO C sp [] ta σ H fun cls d H' => E cls d H'
/-- the promise of such an __init__(self, f): the field f is stored -/
def prInit (C : Addr) (f : Str) (v0 v1 : V) (H : Hp) (Q : VK) : Prop := ∃ a, v0 = .ref a ∧ H a = some (exo a C none) ∧ ∀ dx, H dx = none → dx ≠ a → Q .non (upd (upd H dx (exd dx [(f, v1)])) a (exo a C (some dx)))
def spInit (C : Addr) (f : Str) : Sp := fun vs H Q _ => ∃ v0 v1, vs = [v0, v1] ∧ prInit C f v0 v1 H Q
/-- try: .. except c as n: m = n (n in slot i, m in slot j) -/
def tTryK (K : PySem.W.Frag) (c : Value) (i j : Nat) (tb : WX → TS) : TS := fun D σ H => tb (wKept K c i (fun _ _ _ => tAsg (tVar i) (gName j)) (fun _ _ _ _ => False) D) D σ H
section
variable {K : PySem.W.Frag} {σ : L2.St} {H : Hp} {D : Ends} {E : XK} {C : Addr} {f : Str}
theorem k_raiseP (h : E (.ref C) none H) : tRaiseP C E D σ H := h
theorem heap_made {H : Hp} {a d : Addr} {o1 o2 o3 o4 : HO} (na : H a = none) (ne : d ≠ a) : upd (L2.del (upd (upd (upd H a o1) d o2) a o3) a) d o4 = upd H d o4 := by
  funext b
  by_cases h1 : b = d
  · rw [h1, upd_same, upd_same]
  · rw [upd_ne h1, upd_ne h1]
    by_cases h2 : b = a
    · rw [h2, L2.del_same, na]
    · rw [L2.del_ne h2, upd_ne h2, upd_ne h1, upd_ne h2]
theorem exo_ne_exd {a d C : Addr} {fs : List (Str × V)} : True := trivial
theorem k_raiseO {ta : TA} {v : V} (hta : ∀ (R : List V → Hp → Prop), R [v] H → ta σ H R) (h : ∀ d, H d = none → E (.ref C) (some d) (upd H d (.xd [(f, v)]))) : tRaiseO C (spInit C f) ta E D σ H := by
  refine hta _ ⟨(by show 1 ≤ 1000; decide), fun a na => ?_⟩
  refine ⟨.ref a, v, rfl, a, rfl, upd_same, fun dx ndx ne => ⟨rfl, dx, [(f, v)], upd_same, ?_, ?_, ?_⟩⟩
  · rw [upd_ne ne, upd_same]
  · rw [upd_ne ne] at ndx; exact ndx
  · rw [heap_made na ne]
    rw [upd_ne ne] at ndx
    exact h dx ndx
theorem k_try {i j : Nat} {tb : WX → TS} (h : tb (wKept K (.ref C) i (fun _ _ _ => tAsg (tVar i) (gName j)) (fun _ _ _ _ => False) D) D σ H) : tTryK K (.ref C) i j tb D σ H := h
theorem k_callS {sp : Sp} {W : WX} {tr : TA} {Q : VK} (h : tr σ H fun vs H1 => sp vs H1 Q (WE W σ)) : tCallS sp (WE W) tr σ H Q := h
/-- the exception is one of the clause's -/
theorem k_caught {c : Value} {i j : Nat} {cls : Value} {d : Option Addr} {nx : L2.St → Hp → Prop} {rt : VK} {bk ct : L2.St → Hp → Prop} (hi : i < σ.length) (hc : PySem.W.exmOne K cls c = some true)
    (h : ∀ a, H a = none → nx (((σ.set i (some (.ref a))).set j (some (.ref a))).set i none) (upd H a (ExV cls d a))) : wKept K c i (fun _ _ _ => tAsg (tVar i) (gName j)) (fun _ _ _ _ => False) ⟨nx, rt, bk, ct⟩ cls d σ H :=
  ⟨true, hc, fun _ a na => ⟨.ref a, by rw [List.getElem?_set_self hi], h a na⟩, fun z => Bool.noConfusion z⟩
theorem k_isXone {xs : List V} {Q : VK} {a D : Addr} {c : V} {cv : Value} {b : Bool} (k : KeptAt H a D) (e : ExK K D) (kc : ClsV c cv) (h1 : PySem.W.kitOne K (.ref D) cv = some b) (h : Q (.bl b) H) : rIsA K [.ref a, c] H Q := .inr (.inr (.inl ⟨a, D, c, cv, b, rfl, k, e, kc, h1, h⟩))
theorem k_isXtup {Q : VK} {a D tp : Addr} {cs : List V} {us : List Value} {b : Bool} (k : KeptAt H a D) (e : ExK K D) (hT : H tp = some (.tup cs)) (kc : Paired ClsV cs us) (h1 : PySem.W.kitAny K (.ref D) us = some b) (h : Q (.bl b) H) : rIsA K [.ref a, .ref tp] H Q := .inr (.inr (.inr ⟨a, D, tp, cs, us, b, rfl, k, e, hT, kc, h1, h⟩))
theorem k_isNone {Q : VK} {c : V} {cv : Value} {b : Bool} (kc : ClsV c cv) (h1 : PySem.W.kitOne K (.type "NoneType") cv = some b) (h : Q (.bl b) H) : rIsA K [.non, c] H Q := .inl ⟨_, _, _, _, b, rfl, kc, .base .non, h1, h⟩
theorem k_isOne {Q : VK} {xs : List V} (h : rIsi K xs H Q) : rIsA K xs H Q := .inl h
theorem k_xat {n : Str} {te : TE} {Q : VK} (h : te σ H fun x H1 => ∃ (a C dd : Addr) (fs : List (Str × V)) (v : V), x = .ref a ∧ H1 a = some (ExV (.ref C) (some dd) a) ∧ XfC K C ∧ PySem.W.findIn K (.ref C) n = some none ∧ H1 dd = some (.xd fs) ∧ fs.lookup n = some v ∧ Q v H1) : tXat K n te σ H Q := h
theorem exV_kept {a : Addr} {D : Addr} {d : Option Addr} {H : Hp} (h : H a = some (ExV (.ref D) d a)) (hd : d = none ∨ ∃ dd fs, d = some dd ∧ H dd = some (.xd fs)) : KeptAt H a D := ⟨d, h, hd⟩
end
section
variable {K : PySem.W.Frag} {σ : L2.St} {H : Hp} {D : Ends} {E : XK} {C : Addr} {f : Str} {Q : VK} {te : TE} {tr : TA}
instance {i j : Nat} {tb : WX → TS} : Stp (tTryK K (.ref C) i j tb D σ H) (tb (wKept K (.ref C) i (fun _ _ _ => tAsg (tVar i) (gName j)) (fun _ _ _ _ => False) D) D σ H) := ⟨k_try⟩
instance {sp : Sp} {W : WX} : Stp (tCallS sp (WE W) tr σ H Q) (tr σ H fun vs H1 => sp vs H1 Q (WE W σ)) := ⟨k_callS⟩
instance {n : Str} : Stp (tXat K n te σ H Q) (te σ H fun x H1 => ∃ (a C dd : Addr) (fs : List (Str × V)) (v : V), x = .ref a ∧ H1 a = some (ExV (.ref C) (some dd) a) ∧ XfC K C ∧ PySem.W.findIn K (.ref C) n = some none ∧ H1 dd = some (.xd fs) ∧ fs.lookup n = some v ∧ Q v H1) := ⟨k_xat⟩
instance : Stp (tRaiseP C E D σ H) (E (.ref C) none H) := ⟨k_raiseP⟩
/-- what follows a caught exception is shown once -/
theorem tryjoin {i j : Nat} {tb : WX → TS} (G : Value → Option Addr → L2.St → Hp → Prop) (rest : ∀ cls d σ' H', G cls d σ' H' → wKept K (.ref C) i (fun _ _ _ => tAsg (tVar i) (gName j)) (fun _ _ _ _ => False) D cls d σ' H')
    (h : (∀ cls d σ' H', G cls d σ' H' → wKept K (.ref C) i (fun _ _ _ => tAsg (tVar i) (gName j)) (fun _ _ _ _ => False) D cls d σ' H') → tTryK K (.ref C) i j tb D σ H) : tTryK K (.ref C) i j tb D σ H := h rest
end
section
variable {P : Program} {w : World} {K : PySem.W.Frag} {mg : Str → Option Value} {base : Heap}
/-- such an __init__ keeps its promise; msg, f: its texts -/
theorem init_reads {C B : Addr} {f : Str} {msg : V} {v0 v1 : V} {H : Hp} {Q : VK} (O : OexC K C) (hno : PySem.W.findIn K (.ref C) f = some none) (h : prInit C f v0 v1 H Q) :
    tSeq (tDrop (tVeI K (tCons (tVar 0) (tCons (tC msg) tNil)))) (tOst K f (tVar 0) (tVar 1)) { nx := fun _ H' => Q .non H', rt := Q } [some v0, some v1] H := by
  obtain ⟨a, rfl, ea, q⟩ := h
  refine ⟨_, rfl, a, C, [msg], rfl, (by show 1 ≤ 1000; decide), O, ea, ?_⟩
  exact ⟨_, rfl, _, rfl, a, C, rfl, O, hno, .inl ⟨ea, fun dx nd ne => q dx nd ne⟩⟩
end
end Cm

namespace Cm
open PySem PySem.Spec PyProof.Rows L2

/-! ### how many unlike ints -/
def unl (ns : List Int) : Nat := (PyProof.Rows.firstMet (fun i => ns.getD i 0) ns.length).length
theorem unl_le (ns : List Int) : unl ns ≤ ns.length := PyProof.Rows.firstMet_length_le _ _
def tLenU (K : PySem.W.Frag) (ta : TE) : TE := fun σ H Q => ta σ H fun x H1 => ∃ (l : Addr) (ns : List Int), x = .ref l ∧ SqL K H1 l (ns.map V.int) ∧ ns.length ≤ 4000 ∧ Q (.int (unl ns : Nat)) H1
theorem pe_lenU {X : Cx} {a : Expr} {ta : TE} {p p2 q pos : Pos} (cm : X.calm = true) (gl : Gl X "len") (ml : X.mg "len" = none) (gs : Gl X "set") (ms : X.mg "set" = none) (pa : PE X a ta)
    (se : starEach [a] X.env = (false, eval a X.env) :: starEach [] X.env := by rfl) : PE X (.Call (.Name "len" p) [.Call (.Name "set" p2) [a] [] q] [] pos) (tLenU X.K ta) := by
  constructor
  intro pins s σ H Q I h
  refine Call_ (ld_blt I gl ml boot_len (PyProof.Rows.callWith_builtin1 (PyProof.Rows.args_cons ?_ rfl) rfl rfl))
  refine Call_ (ld_blt I gs ms boot_set (PyProof.Rows.callWith_type1 (PyProof.Rows.args_cons (thn (pa.run pins s σ H _ I h) fun v s1 ⟨x, H1, J, rx, qx⟩ => PyProof.Rows.args_nil ?_) se) se rfl))
  obtain ⟨l, ns, rfl, hq, hl, qx⟩ := qx
  cases rx
  obtain ⟨its, rv, pl, hz⟩ := J.list hq
  have sz1 : its.toArray.size = ns.length := by rw [List.size_toArray, ← rv.length, List.length_map]
  refine call_set_list (J.ok.hd cm) pl.isList (by simpa using RZ.intsAre_vals rv) (by rw [sz1]; unfold scanBound; omega) fun h' tk hS hk => PyProof.Rows.args_nil ?_
  rw [sz1] at hS
  obtain ⟨o, es, ep, t, ho, hex, hd, _, _, _, hf, hn⟩ := hS
  have J2 : Inv X pins σ H1 { s1 with heap := h', toks := tk } := J.kept fun b o e => hk b o (Heap.lt_size e) e
  have hu := unl_le ns
  exact call_len_set ho hex hd hf (by rw [hn]; unfold unl at hu; omega) ⟨.int (unl ns : Nat), H1, J2.tok _, ⟨_, by rw [hn]; rfl⟩, qx⟩

section
variable {K : PySem.W.Frag} {σ : L2.St} {H1 : Hp} {g : TG} {tt : TT} {te : TE} {vs : List Nat}
/-- over a tuple, new objects may be made -/
theorem lc_growT {QD : Addr → Hp → Prop} {α : Type} {a : Addr} {xs : List V} (hs : SqT K H1 a xs) (ps : List α) (hl : xs.length = ps.length) (hz : ps.length ≤ 50000) (f : α → Option V)
    (step : ∀ (i : Nat) x p H', xs[i]? = some x → ps[i]? = some p → Same H1 H' → ∀ (R : V → Hp → Prop) (R0 : Hp → Prop), (∀ y H'', f p = some y → Same H' H'' → R y H'') → (∀ H'', f p = none → Same H' H'' → R0 H'') →
      g x (wipe σ vs) H' fun σ2 H2 => wipe σ2 vs = wipe σ vs ∧ tt σ2 H2 fun b H3 => if b = true then te σ2 H3 R else R0 H3)
    (h : ∀ D H', H1 D = none → Same H1 H' → H' D = some (.lst (ps.filterMap f)) → QD D H') :
    ∃ a', V.ref a = .ref a' ∧ (∃ xs, SqT K H1 a' xs) ∧ ∀ D, H1 D = none → ∃ W : Nat → Nat → Hp → Prop, (∃ m, W 0 m (upd H1 D (.lst []))) ∧ ∀ i m H, W i m H →
      ((Itt K a').stop i H ∧ QD D H) ∨ ((Itt K a').go i H ∧ ∃ Nx : Hp → Prop, (∀ H', Nx H' → ∃ m', m' < m ∧ W (i + 1) m' H') ∧ ∀ x H', (Itt K a').yld i H x H' → g x (wipe σ vs) H' fun σ2 H2 => wipe σ2 vs = wipe σ vs ∧ tt σ2 H2 fun b H3 =>
        if b = true then te σ2 H3 fun y H4 => ∃ acc, H4 D = some (.lst acc) ∧ acc.length < sizeLine ∧ Nx (upd H4 D (.lst (acc ++ [y]))) else Nx H3) := by
  refine ⟨a, rfl, ⟨xs, hs⟩, fun D nD => lc_tup (xs := xs) (fun i H => Same H1 H ∧ H D = some (.lst ((ps.take i).filterMap f))) ⟨same_new nD, by rw [upd_same]; simp⟩ (fun i H _ e => same_seqT e.1 hs) ?_ ?_⟩
  · rintro i x H hx ⟨sm, hD⟩
    have hi : i < xs.length := (List.getElem?_eq_some_iff.mp hx).1
    obtain ⟨p, hp⟩ : ∃ p, ps[i]? = some p := ⟨ps[i]'(by omega), List.getElem?_eq_getElem (by omega)⟩
    have tk := take_filterMap (f := f) hp
    refine step i x p H hx hp sm _ _ (fun y H'' hy s2 => ⟨_, s2 _ _ hD, szl ?_, same_mut (sm.trans s2) nD, ?_⟩) (fun H'' hn s2 => ⟨sm.trans s2, ?_⟩)
    · have := List.length_filterMap_le f (ps.take i)
      rw [List.length_take] at this
      omega
    · rw [upd_same, tk, hy]; rfl
    · rw [tk, hn, s2 _ _ hD]; simp
  · rintro H ⟨sm, hD⟩
    rw [hl, List.take_length] at hD
    exact h D H nD sm hD
end
theorem k_ixN {K : PySem.W.Frag} {H : Hp} {Q : VK} {p : Addr} {ns : List Int} {i : Nat} {x : Int} (hs : SqL K H p (ns.map V.int)) (hx : ns[i]? = some x) (h : Q (.int x) H) : rIxL K (.ref p) (.int i) H Q := k_ixL hs (atI_nat (by rw [List.getElem?_map, hx]; rfl)) h
theorem fm_map {α : Type} (f : α → V) (l : List α) : l.filterMap (fun x => some (f x)) = l.map f := by
  rw [show (fun x => some (f x)) = some ∘ f from rfl, List.filterMap_eq_map]

/-- what follows a statement is shown once, and lies out of sight meanwhile -/
theorem seqO {s1 s2 : TS} {σ : L2.St} {H : Hp} {nx bk ct : L2.St → Hp → Prop} {rt : VK} (G : L2.St → Hp → Prop) (main : ∀ σ H, G σ H → s2 ⟨nx, rt, bk, ct⟩ σ H) (h : ∀ nx' : L2.St → Hp → Prop, (∀ σ H, G σ H → nx' σ H) → s1 ⟨nx', rt, bk, ct⟩ σ H) : tSeq s1 s2 ⟨nx, rt, bk, ct⟩ σ H := h _ main
/-- the last statement of a block -/
theorem lastO {s1 : TS} {σ : L2.St} {H : Hp} {nx bk ct : L2.St → Hp → Prop} {rt : VK} (G : L2.St → Hp → Prop) (main : ∀ σ H, G σ H → nx σ H) (h : ∀ nx' : L2.St → Hp → Prop, (∀ σ H, G σ H → nx' σ H) → s1 ⟨nx', rt, bk, ct⟩ σ H) : s1 ⟨nx, rt, bk, ct⟩ σ H := h _ main

/-! ### texts -/
def rStrInt : List V → Hp → VK → Prop := fun xs H Q => ∃ i : Int, xs = [.int i] ∧ i.natAbs.log2 < 1920 ∧ Q (.str (toString i)) H
theorem q_strI {X : Cx} : CallR X (.type "str") rStrInt := call_str_int
def xAddS : R2 := fun x y H Q => ∃ i j, x = .str i ∧ y = .str j ∧ i.length + j.length ≤ sizeLine ∧ Q (.str (i ++ j)) H
def rJoin (K : PySem.W.Frag) : V → List V → Hp → VK → Prop := fun x xs H Q => ∃ a p, ∃ ys : List Str, x = .str a ∧ xs = [.ref p] ∧ (SqL K H p (ys.map V.str) ∨ SqT K H p (ys.map V.str)) ∧ (ys.map (·.length)).sum + ys.length * a.length ≤ 16777216 ∧ Q (.str (Txt.join a ys)) H
/-- the signs of a text -/
abbrev sg (s : Str) : List Nat := TL.tl s
def mkS (l : List Nat) : Str := ⟨l.toArray⟩
theorem sg_mkS (l : List Nat) : sg (mkS l) = l := rfl
theorem mkS_sg (s : Str) : mkS (sg s) = s := TL.ext_tl rfl
theorem mkS_inj {l m : List Nat} : mkS l = mkS m ↔ l = m := ⟨fun h => by have := congrArg sg h; rwa [sg_mkS, sg_mkS] at this, fun h => by rw [h]⟩
/-- the signs of a whole number -/
def nu (i : Int) : List Nat := sg (Str.ofString (toString i))
section
variable {K : PySem.W.Frag} {σ : L2.St} {H : Hp} {Q : VK} {to te : TE}
instance {r : V → List V → Hp → VK → Prop} : Stp (tM1 r to te σ H Q) (to σ H fun x H1 => (∃ a, x = .str a) ∧ te σ H1 fun y H2 => r x [y] H2 Q) := ⟨fun h => h⟩
instance {r : V → List V → Hp → VK → Prop} : Stp (tM0 r to σ H Q) (to σ H fun x H1 => (∃ a, x = .str a) ∧ r x [] H1 Q) := ⟨fun h => h⟩
instance {s : Str} {R : Prop} : Stp ((∃ a, V.str s = .str a) ∧ R) R := ⟨fun h => ⟨⟨s, rfl⟩, h⟩⟩
instance : Stp (tLenU K te σ H Q) (te σ H fun x H1 => ∃ (l : Addr) (ns : List Int), x = .ref l ∧ SqL K H1 l (ns.map V.int) ∧ ns.length ≤ 4000 ∧ Q (.int (unl ns : Nat)) H1) := ⟨fun h => h⟩
theorem k_lenU {l : Addr} {ns : List Int} (hs : SqL K H l (ns.map V.int)) (hl : ns.length ≤ 4000) (h : Q (.int (unl ns : Nat)) H) : ∃ (l' : Addr) (ns : List Int), V.ref l = .ref l' ∧ SqL K H l' (ns.map V.int) ∧ ns.length ≤ 4000 ∧ Q (.int (unl ns : Nat)) H := ⟨l, ns, rfl, hs, hl, h⟩
/-- a number of at most thirty figures -/
def Num30 (i : Int) : Prop := 0 ≤ i ∧ i < 10 ^ 30
theorem log_lt {n : Nat} (h : n < 2 ^ 1900) : n.log2 < 1920 := by
  by_cases c : n = 0
  · subst c; decide
  · have := (Nat.log2_lt c (k := 1900)).mpr h
    omega
theorem k_strI {i : Int} (h0 : i.natAbs < 2 ^ 1900) (h : Q (.str (mkS (nu i))) H) : rStrInt [.int i] H Q := ⟨i, rfl, log_lt h0, by unfold nu at h; rw [mkS_sg] at h; exact h⟩
theorem len_sg (s : Str) : s.length = (sg s).length := TL.len_tl s
theorem k_addS {s t : Str} (hz : (sg s).length + (sg t).length ≤ 100000) (h : Q (.str (mkS (sg s ++ sg t))) H) : xAddS (.str s) (.str t) H Q := ⟨s, t, rfl, rfl, by rw [len_sg, len_sg]; exact sz hz, by
  have e : s ++ t = mkS (sg s ++ sg t) := TL.ext_tl (TL.tl_append s t)
  rw [e]; exact h⟩
theorem k_join {s : Str} {p : Addr} {ys : List Str} (hp : SqL K H p (ys.map V.str)) (hz : (ys.map (·.length)).sum + ys.length * s.length ≤ 16777216) (h : Q (.str (mkS (TL.joinL (sg s) (ys.map sg)))) H) : rJoin K (.str s) [.ref p] H Q :=
  ⟨s, p, ys, rfl, rfl, .inl hp, hz, by
    have e : Txt.join s ys = mkS (TL.joinL (sg s) (ys.map sg)) := TL.ext_tl (by rw [TL.join_eq]; exact TL.tl_join s ys)
    rw [e]; exact h⟩
theorem k_isiS {s : Str} (h : Q (.bl true) H) : rIsi K [.str s, .ty "str"] H Q := k_isi (.base (.str s)) (by decide +kernel) h
end
/-! ### more of texts -/
def g_tokS (mg : Str → Option Value) (x : Str) : Tok := match mg x with
  | some (.str _ t) => t
  | _ => default
theorem tok_mkS {mg : Str → Option Value} {x n : Str} {t : Tok} (h : mg x = some (.str n t)) : mg x = some (.str n (g_tokS mg x)) := by
  unfold g_tokS
  rw [h]
theorem q_isiT {X : Cx} : CallR X (.builtin "isinstance") (rIsiT X.K) := call_isiT
def rLenStr : List V → Hp → VK → Prop := fun xs H Q => ∃ z : Str, xs = [.str z] ∧ z.length ≤ sizeLine ∧ Q (.int z.length) H
theorem q_lenS {X : Cx} : CallR X (.builtin "len") rLenStr := call_len_str
def xInS : R2 := fun x y H Q => ∃ i j, x = .str i ∧ y = .str j ∧ Q (.bl (!(Builtin.Str.occurrences j i 0 j.length 1).isEmpty)) H
def xNotInS : R2 := fun x y H Q => ∃ i j, x = .str i ∧ y = .str j ∧ Q (.bl (!(!(Builtin.Str.occurrences j i 0 j.length 1).isEmpty))) H
def rFind : V → List V → Hp → VK → Prop := fun x xs H Q => ∃ a b, x = .str a ∧ xs = [.str b] ∧ Q (.int (Txt.find a b)) H
def rSplit : V → List V → Hp → VK → Prop := fun x xs H Q => ∃ a b, x = .str a ∧ xs = [.str b] ∧ (b.length == 0) = false ∧ a.length + 2 ≤ sizeLine ∧ rNewStrs (Txt.split a b) H Q
section
variable {K : PySem.W.Frag} {σ : L2.St} {H : Hp} {Q : VK} {te : TE}
instance {R : It → Hp → Prop} : Stp (iStr te σ H R) (te σ H fun v H1 => ∃ x, v = .str x ∧ R (Its x) H1) := ⟨fun h => h⟩
theorem k_lenS {l : List Nat} (hl : l.length ≤ 100000) (h : Q (.int (l.length : Nat)) H) : rLenStr [.str (mkS l)] H Q := ⟨_, rfl, by rw [len_sg, sg_mkS]; exact sz hl, by rw [len_sg, sg_mkS]; exact h⟩
theorem k_notInS {l : List Nat} {c : Nat} (h : Q (.bl (!decide (c ∈ l))) H) : xNotInS (.str ⟨#[c]⟩) (.str (mkS l)) H Q := ⟨_, _, rfl, rfl, by
  rw [StrLaws.found_one]; exact h⟩
theorem k_inS {l : List Nat} {c : Nat} (h : Q (.bl (decide (c ∈ l))) H) : xInS (.str ⟨#[c]⟩) (.str (mkS l)) H Q := ⟨_, _, rfl, rfl, by
  rw [StrLaws.found_one]; exact h⟩
theorem k_split {l : List Nat} {s : Str} {ps : List (List Nat)} (hl : l.length ≤ 99000) (hs : s.length ≠ 0) (hp : Txt.split (mkS l) s = ps.map mkS) (h : ∀ p H', H p = none → Same H H' → H' p = some (.lst (ps.map fun q => V.str (mkS q))) → Q (.ref p) H') : rSplit (.str (mkS l)) [.str s] H Q :=
  ⟨_, _, rfl, rfl, by simpa using hs, by rw [len_sg, sg_mkS]; exact sz (by omega), fun p np => h p _ np (same_new np) (by rw [upd_same, hp, List.map_map]; rfl)⟩
theorem k_ixS {l : List Nat} {i : Nat} {c : Nat} (hl : l.length ≤ 100000) (hc : l[i]? = some c) (h : Q (.str ⟨#[c]⟩) H) : rIxS (.str (mkS l)) (.int i) H Q := ⟨_, _, c, rfl, rfl, by rw [len_sg, sg_mkS]; exact sz hl, atI_nat hc, h⟩
end
theorem split_one {s : Nat} {ps : List (List Nat)} (hs : s < 256) (hne : ps ≠ []) (hp : ∀ p ∈ ps, s ∉ p) : Txt.split (mkS (TL.joinL [s] ps)) ⟨#[s]⟩ = ps.map mkS := by
  have e : mkS (TL.joinL [s] ps) = Txt.join ⟨#[s]⟩ (ps.map mkS) := TL.ext_tl (by
    rw [TL.join_eq, TL.tl_join, List.map_map]
    show TL.joinL [s] ps = TL.joinL [s] (ps.map (TL.tl ∘ mkS))
    rw [show (TL.tl ∘ mkS) = id from rfl, List.map_id])
  rw [e]
  refine TL.split_join (s := s) (S := []) rfl (by simp [hs]) (by simpa using hne) fun p h => ?_
  obtain ⟨q, hq, rfl⟩ := List.mem_map.mp h
  exact hp q hq
/-- rows, each with its end, and what stands behind the last end -/
theorem rows_join (rs : List (List Nat)) (e : Nat) (z : List Nat) : (rs.map fun r => r ++ [e]).flatten ++ z = TL.joinL [e] (rs ++ [z]) := by
  induction rs with
  | nil => rfl
  | cons r t ih =>
    have : TL.joinL [e] (r :: (t ++ [z])) = r ++ ([e] ++ TL.joinL [e] (t ++ [z])) := by
      cases t <;> rfl
    rw [List.cons_append, this, ← ih]
    simp
theorem sg_str (s : String) : sg (Str.ofString s) = s.toList.map Char.toNat := TL.tl_ofString s
theorem nu_nat (n : Nat) : nu (n : Int) = TL.numL n := TL.tl_num n
theorem nu_len {i : Int} (h : 0 ≤ i) {k : Nat} (k0 : 0 < k) (h1 : i < 10 ^ k) : (nu i).length ≤ k := by
  obtain ⟨n, rfl⟩ := Int.eq_ofNat_of_zero_le h
  rw [nu_nat]
  unfold TL.numL
  rw [List.length_map]
  refine (Nat.length_toDigits_le_iff (by decide) k0).mpr ?_
  have : ((n : Nat) : Int) < ((10 ^ k : Nat) : Int) := by rw [Int.natCast_pow]; exact h1
  exact Int.ofNat_lt.mp this
/-- signs behind one another -/
theorem joinL_nil (ps : List (List Nat)) : TL.joinL [] ps = ps.flatten := by
  induction ps with
  | nil => rfl
  | cons p r ih => cases r with
    | nil => simp [TL.joinL]
    | cons q r => show p ++ ([] ++ TL.joinL [] (q :: r)) = _; rw [ih]; simp
theorem joinL_cons (S p : List Nat) (r : List (List Nat)) : TL.joinL S (p :: r) = p ++ (r.map fun q => S ++ q).flatten := by
  induction r generalizing p with
  | nil => simp [TL.joinL]
  | cons q r ih => show p ++ (S ++ TL.joinL S (q :: r)) = _; rw [ih]; simp
theorem sum_le {l : List Nat} {b : Nat} (h : ∀ x ∈ l, x ≤ b) : l.sum ≤ l.length * b := by
  induction l with
  | nil => simp
  | cons x r ih =>
    have h1 := ih fun y hy => h y (List.mem_cons_of_mem _ hy)
    have h2 := h x List.mem_cons_self
    rw [List.sum_cons, List.length_cons, Nat.add_mul]
    omega
theorem flat_le {l : List (List Nat)} {b : Nat} (h : ∀ x ∈ l, x.length ≤ b) : l.flatten.length ≤ l.length * b := by
  rw [List.length_flatten]
  have := sum_le (l := l.map List.length) (b := b) fun x hx => by
    obtain ⟨y, hy, rfl⟩ := List.mem_map.mp hx
    exact h y hy
  rw [List.length_map] at this
  exact this
end Cm

namespace Cm
open PySem PySem.Spec PyProof.Rows L2

/-! ### max(d.values()) -/
def tMaxVals (td : TE) : TE := fun σ H Q => td σ H fun x H1 => ∃ (a : Addr) (kvs : List (Key × V)) (is : List Int), x = V.ref a ∧ H1 a = some (.dK kvs) ∧ kvs.map (·.2) = is.map V.int ∧ is ≠ [] ∧ ∀ m, m ∈ is → (∀ j ∈ is, j ≤ m) → Q (.int m) H1
theorem pe_maxVals {X : Cx} {o : Expr} {p pos apos mpos : Pos} {td : TE} (hc : X.calm = true) (hg : Gl X "max") (hm : X.mg "max" = none) (hd : PE X o td) (hbase : attributeBase o "values" X.env (eval o X.env) = eval o X.env := by rfl) (hline : (apos.endLine == mpos.line) = true := by rfl)
    (hse : starEach [Expr.Call (.Attribute o "values" apos) [] [] mpos] X.env = [(false, eval (Expr.Call (.Attribute o "values" apos) [] [] mpos) X.env)] := by rfl) :
    PE X (.Call (.Name "max" p) [.Call (.Attribute o "values" apos) [] [] mpos] [] pos) (tMaxVals td) := by
  constructor
  intro pins s σ H Q I h
  refine wpAny_Call_Name_kw (ld_blt I hg hm (u := .builtin "max") (by first | rfl | decide +kernel) ?_ (by first | decide +kernel | decide) (by first | decide +kernel | decide))
  rw [hse]
  refine PySem.callWith_builtin1 (wpAny_Call_method0_late hbase hline (thn (hd.run pins s σ H _ I h) ?_))
  rintro v s1 ⟨x, H1, I1, r1, a, kvs, is, rfl, ha, hv, hne, q⟩
  obtain rfl : v = Value.ref a := r1
  obtain ⟨_, hsys, vs, rel, dof⟩ := dk_of I1.hok ha
  obtain ⟨ep, dat⟩ := dof.dictAt
  obtain ⟨ob, es, ho, ex, hdat, hko, hpr, hnd⟩ := id dat
  have lv : vs.length = is.length := by
    have e1 : kvs.length = is.length := by simpa using congrArg List.length hv
    rw [← e1]; exact (KV.length rel).symm
  have l0 : 0 < is.length := List.length_pos_iff.mpr hne
  have vals : ∀ (i : Nat) (v : Value), (∃ k, vs[i]? = some (k, v)) → ∃ t, v = Value.int (is.getD i 0) t := by
    rintro i v ⟨k, hk⟩
    obtain ⟨x, h1, h2⟩ := KV.at' rel hk
    have e1 : (is.map V.int)[i]? = some x := by rw [← hv, List.getElem?_map, h1] <;> rfl
    rw [List.getElem?_map] at e1
    obtain ⟨j, hj, rfl⟩ := Option.map_eq_some_iff.mp e1
    obtain ⟨t, e3⟩ := h2
    exact ⟨t, by rw [e3, List.getD_eq_getElem?_getD, hj] <;> rfl⟩
  refine ⟨"dict", "dict.values", F.plainAttrs_dict, F.slot_dict_values, F.type_dict_values, ⟨ob, ho, ex.1⟩, fun b e => by cases e; exact ⟨ob, ho, ex.2.1⟩, Calls.callWith_builtin rfl (PySem.evalArgs_none ?_)⟩
  refine call_meetsIn F.slot_dict_values ⟨ob, ho, ex.1⟩ F.entry_dict_values (F.args_dict_values_1 _) (meets_dict_values (mixKind X.prog X.w) a hsys) ⟨⟨vs, dof⟩, ?_⟩
  have up : ∀ b u, s1.heap.get? b = some u → (s1.heap.push { cls := .type "dict_values", data := .fields #[.ref a] }).get? b = some u := fun b u e => Heap.get?_push_of_some _ e
  have dat1 := dat.keep up
  have alt : a < s1.heap.objs.size := Heap.lt_size ho
  have sz : (s1.heap.push { cls := .type "dict_values", data := .fields #[.ref a] }).objs.size = s1.heap.objs.size + 1 := Heap.size_push _ _
  refine call_max_walk (wpAny_pyIter_values (v := s1.heap.objs.size) (d := a) ⟨_, Heap.get?_push_size _ rfl, rfl, rfl⟩ dat1 ?_)
  refine ⟨_, _, _, _, _, _, _, rfl, Walks.dictValues (knd := mixKind X.prog X.w) (A := X.A.in1) (I.ok.hd hc) (s1.heap.push { cls := .type "dict_values", data := .fields #[.ref a] }).objs.size a (by rw [sz]; exact Nat.ne_of_lt (Nat.lt_succ_of_lt alt)) vs ep,
    ⟨⟨_, Heap.get?_push_size _ rfl, rfl, rfl⟩, dat1.keep fun b u e => Heap.get?_push_of_some _ e⟩, ?_, by omega, CmpOf.ints_gt (fun i => is.getD i 0) vals, ?_⟩
  · intro b hb
    show b < ((s1.heap.push _).push _).objs.size
    rw [Heap.size_push, Heap.size_push]
    rw [sz] at hb
    rcases List.mem_cons.mp hb with e | hb
    · rw [e]; exact Nat.lt_succ_self _
    · rw [show b = a from List.mem_singleton.mp hb]
      exact Nat.lt_succ_of_lt (Nat.lt_succ_of_lt alt)
  · intro v h' tk hP hk
    obtain ⟨t, rfl⟩ := vals _ v hP
    obtain ⟨b1, b2⟩ := argBest_gt (fun i => is.getD i 0) (vs.length - 1)
    refine ⟨.int _, H1, I1.kept (t' := tk) fun b u e => hk b u (fun hmem => ?_) (Heap.get?_push_of_some _ (up b u e)), ⟨t, rfl⟩, q _ ?_ ?_⟩
    · have e1 := List.mem_singleton.mp hmem
      have e2 := Heap.lt_size e
      rw [sz] at e1
      rw [e1] at e2
      exact Nat.lt_irrefl _ (Nat.lt_of_lt_of_le e2 (Nat.le_succ _))
    · have hb : argBest (fun i j => decide (is.getD i 0 > is.getD j 0)) (vs.length - 1) < is.length := by omega
      rw [List.getD_eq_getElem?_getD, List.getElem?_eq_getElem hb]
      exact List.getElem_mem hb
    · intro j hj
      obtain ⟨i, hi, rfl⟩ := List.mem_iff_getElem.mp hj
      have e2 : is.getD i 0 = is[i] := by rw [List.getD_eq_getElem?_getD, List.getElem?_eq_getElem hi] <;> rfl
      rw [← e2]
      exact b2 i (by omega)

/-! ### fields and methods of an instance -/
section
variable {K : PySem.W.Frag} {σ : L2.St} {H : Hp} {Q : VK} {ta tv : TE} {t : TA} {f m : Str} {a C dx : Addr} {fs : List (Str × V)}
/-- x.f is read -/
def gF (K : PySem.W.Frag) (f : Str) (x : V) (H : Hp) (Q : VK) : Prop := ∃ a C dx fs v, x = .ref a ∧ H a = some (.ins C dx fs) ∧ Cls K C ∧ NoAttr K C f ∧ fs.lookup f = some v ∧ Q v H
instance : Stp (tFld K ta f σ H Q) (ta σ H fun x H1 => gF K f x H1 Q) := ⟨id⟩
theorem k_gF {v : V} (e : H a = some (.ins C dx fs)) (c : Cls K C) (n : NoAttr K C f) (l : fs.lookup f = some v) (h : Q v H) : gF K f (.ref a) H Q := ⟨a, C, dx, fs, v, rfl, e, c, n, l, h⟩
/-- x.f = y is written -/
def pF (K : PySem.W.Frag) (f : Str) (x y : V) (H : Hp) (N : Hp → Prop) : Prop := ∃ a C dx fs, x = .ref a ∧ H a = some (.ins C dx fs) ∧ Cls K C ∧ NoAttr K C f ∧ fs.length < 1000 ∧ N (upd H a (.ins C dx (putF f y fs)))
instance {nx bk ct : L2.St → Hp → Prop} {rt : VK} : Stp (sFld K ta tv f ⟨nx, rt, bk, ct⟩ σ H) (tv σ H fun y H1 => ta σ H1 fun x H2 => pF K f x y H2 (nx σ)) := ⟨id⟩
theorem k_pF {y : V} {N : Hp → Prop} (e : H a = some (.ins C dx fs)) (c : Cls K C) (n : NoAttr K C f) (l : fs.length < 1000) (h : N (upd H a (.ins C dx (putF f y fs)))) : pF K f (.ref a) y H N := ⟨a, C, dx, fs, rfl, e, c, n, l, h⟩
/-- x.m is a method's call -/
def mF (C : Addr) (m : Str) (x : V) (H : Hp) (P : Prop) : Prop := ∃ a dx fs, x = .ref a ∧ H a = some (.ins C dx fs) ∧ fs.lookup m = none ∧ P
instance {sp : Sp} {E : XK} : Stp (tMeth C m sp [] E ta t σ H Q) (ta σ H fun x H1 => mF C m x H1 (t σ H1 fun vs H2 => sp (x :: vs) H2 Q E)) := ⟨fun h => by
  unfold tMeth
  simp only [List.append_nil]
  exact h⟩
theorem k_mF {P : Prop} (e : H a = some (.ins C dx fs)) (l : fs.lookup m = none) (h : P) : mF C m (.ref a) H P := ⟨a, dx, fs, rfl, e, l, h⟩
/-- a new instance -/
def newI (C : Addr) (sp : Sp) (E : XK) (vs : List V) (H : Hp) (Q : VK) : Prop := ∀ x dx, H x = none → H dx = none → dx ≠ x → sp (.ref x :: vs) (upd (upd H dx (.own x)) x (.ins C dx [])) (fun v H2 => v = .non ∧ Q (.ref x) H2) E
instance {sp : Sp} {E : XK} : Stp (tMake C sp [] E t σ H Q) (t σ H fun vs H1 => newI C sp E vs H1 Q) := ⟨fun h => by
  unfold tMake
  simp only [List.append_nil]
  exact h⟩
end

/-! ### methods and makings that may raise, in a try -/
section
variable {X : Cx} {CX : CXT} {k : Nat} {f C : Addr} {fd : FuncData} {ps : List Str} {sp : Sp} {E : L2.St → XK} {x m : Str} {p pos apos : Pos} {e o : Expr} {es : List Expr} {ta : TE} {t : TA}
def tMethS (C : Addr) (m : Str) (sp : Sp) (E : L2.St → XK) (ta : TE) (t : TA) : TE := fun σ H Q => ta σ H fun x H1 => ∃ a dx fs, x = .ref a ∧ H1 a = some (.ins C dx fs) ∧ fs.lookup m = none ∧ t σ H1 fun vs H2 => sp (x :: vs) H2 Q (E σ)
theorem pe_methS {pl : Sem Bool} (he : PE X o ta) (c : Cls X.K C) (hm : Meth X.K C m f) (F : FnOk X.prog X.w X.K X.mg X.base CX k f fd ps sp) (hr : Room k X.A) (hb : Binds X.K fd ps []) (hx : ∀ σ, PassesAt CX X σ (E σ)) (ha : PA X (e :: es) t)
    (hst : starEach (e :: es) X.env = (false, eval e X.env) :: starEach es X.env := by rfl) (hpl : (backTo pos (starEach es X.env)).any (·.1) = false := by rfl)
    (ht : eval (.Call (.Attribute o m apos) (e :: es) [] pos) X.env = (do
      let ov ← eval o X.env
      standAt apos.atName
      let (f, first) ← holding [ov] (getMethod ov m pl)
      callWith pos f first (backTo pos (starEach (e :: es) X.env)) (backToKw pos (keywordEach [] X.env))) := by rfl) :
    PE X (.Call (.Attribute o m apos) (e :: es) [] pos) (tMethS C m sp E ta t) := by
  refine ⟨fun pins s σ H Q I h => ?_⟩
  refine PySem.W.methodCall_KW (pl := pl) (thn (he.run pins s σ H _ I h) fun u s1 ⟨x, H1, I1, rx, a, dx, fs, ex, ea, l, q⟩ => ?_) ht
  subst ex
  obtain rfl : u = Value.ref a := rx
  refine getmeth_ok I1 ea c hm l ?_
  refine PySem.W.callWith_K (first := [.ref a]) (h₀ := X.base) I.ok.mod.kin hm.kp (thn (ha.run pos pins s1 σ H1 _ I1 q) fun us s2 ⟨vs, H2, I2, r, q2⟩ => ⟨I2.kIn, ?_⟩) hst hpl
  exact run_fnS (us := .ref a :: us) (vs := .ref a :: vs) F hr hb (hx σ) I2 (.cons rfl r) q2
def tMakeS (C : Addr) (sp : Sp) (E : L2.St → XK) (t : TA) : TE := fun σ H Q => t σ H fun vs H1 => ∀ x dx, H1 x = none → H1 dx = none → dx ≠ x → sp (.ref x :: vs) (upd (upd H1 dx (.own x)) x (.ins C dx [])) (fun v H2 => v = .non ∧ Q (.ref x) H2) (E σ)
theorem pe_makeS (M : Mk X.K C f) (F : FnOk X.prog X.w X.K X.mg X.base CX k f fd ps sp) (hr : Room (k + 1) X.A) (hg : Gl X x) (hm : X.mg x = some (.ref C)) (hb : Binds X.K fd ps []) (hx : ∀ σ, PassesAt CX X σ (E σ))
    (ha : PA X (e :: es) t) (hdb : (x == ("__debug__" : Str)) = false := by decide) (he : starEach (e :: es) X.env = (false, eval e X.env) :: starEach es X.env := by rfl) (hpl : (backTo pos (starEach es X.env)).any (·.1) = false := by rfl) :
    PE X (.Call (.Name x p) (e :: es) [] pos) (tMakeS C sp E t) := by
  refine ⟨fun pins s σ H Q I h => ?_⟩
  refine wpAny_Call_Name_kw (ld_glob I hg hm ?_ hdb)
  refine PySem.W.callWith_K (h₀ := X.base) I.ok.mod.kin M.kp (thn (ha.run pos pins s σ H _ I h) fun us s1 ⟨vs, H1, I1, r, q⟩ => ⟨I1.kIn, ?_⟩) he hpl
  have hq := q (s1.heap.objs.size + 1) s1.heap.objs.size (I1.hok.fresh (Nat.le_succ _)) (I1.hok.fresh (Nat.le_refl _)) (Nat.ne_of_lt (Nat.lt_succ_self _))
  have I2 := Inv.made (C := C) I1
  have r2 : Vals (V.ref (s1.heap.objs.size + 1) :: vs) (Value.ref (s1.heap.objs.size + 1) :: us) := .cons rfl r
  have hl : (Value.ref (s1.heap.objs.size + 1) :: us ++ []).length = ps.length := by
    have e := r2.length
    rw [F.len _ _ _ _ hq] at e
    rw [List.append_nil]
    exact e.symm
  have b := hb _ (Value.ref (s1.heap.objs.size + 1) :: us) I2.kIn hl
  rw [List.append_nil] at b
  refine wpAny_call (make_map (f := f) I1.kIn M.makes M.init (beq_iff_eq.mp M.fn) (codeAny_mono (F.run _ X.stack _ _ ⟨Value.ref (s1.heap.objs.size + 1) :: us, []⟩ (Value.ref (s1.heap.objs.size + 1) :: us) _ _ (E σ) (hr.make C us [])
    (I2.env0.make C us []) b r2 hq) fun r s' hq' => ?_))
  cases r with
  | error e => exact hx σ pins _ _ e s' I2 hq'
  | ok fl =>
    cases fl with
    | ret u =>
      obtain ⟨v, H', I3, rv, ev, q3⟩ := I2.after hq'
      subst ev
      exact ⟨rv, ⟨V.ref (s1.heap.objs.size + 1), H', I3, rfl, q3⟩⟩
    | next => exact False.elim hq'
    | brk => exact False.elim hq'
    | cont => exact False.elim hq'
end
section
variable {σ : L2.St} {H : Hp} {Q : VK} {ta : TE} {t : TA} {m : Str} {C : Addr}
instance {sp : Sp} {E : L2.St → XK} : Stp (tMethS C m sp E ta t σ H Q) (ta σ H fun x H1 => mF C m x H1 (t σ H1 fun vs H2 => sp (x :: vs) H2 Q (E σ))) := ⟨id⟩
instance {sp : Sp} {E : L2.St → XK} : Stp (tMakeS C sp E t σ H Q) (t σ H fun vs H1 => newI C sp (E σ) vs H1 Q) := ⟨id⟩
end
/-! ### a comprehension over a range whose items are new things, each by itself -/
section
variable {K : PySem.W.Frag} {σ : L2.St} {H1 : Hp} {Q : VK} {g : TG} {tt : TT} {te : TE} {vs : List Nat}
theorem lc_rowsR {QD : Addr → Hp → Prop} {lo : Int} {n : Nat} (hz : n ≤ 50000) (F : Nat → HO)
    (step : ∀ (i : Nat) H', i < n → Same H1 H' → ∀ (R : V → Hp → Prop) (R0 : Hp → Prop), (∀ p H'', H' p = none → Same H' H'' → H'' p = some (F i) → R (.ref p) H'') →
      g (.int (lo + (i : Nat))) (wipe σ vs) H' fun σ2 H2 => wipe σ2 vs = wipe σ vs ∧ tt σ2 H2 fun b H3 => if b = true then te σ2 H3 R else R0 H3)
    (h : ∀ (D : Addr) (rs : List Addr) (H' : Hp), H1 D = none → Same H1 H' → H' D = some (.lst (rs.map V.ref)) → rs.length = n → rs.Nodup → D ∉ rs → (∀ r ∈ rs, H1 r = none) → (∀ (j : Nat) r, rs[j]? = some r → H' r = some (F j)) → QD D H') :
    ∀ D, H1 D = none → ∃ W : Nat → Nat → Hp → Prop, (∃ m, W 0 m (upd H1 D (.lst []))) ∧ ∀ i m H, W i m H →
      ((Itr lo n).stop i H ∧ QD D H) ∨ ((Itr lo n).go i H ∧ ∃ Nx : Hp → Prop, (∀ H', Nx H' → ∃ m', m' < m ∧ W (i + 1) m' H') ∧ ∀ x H', (Itr lo n).yld i H x H' → g x (wipe σ vs) H' fun σ2 H2 => wipe σ2 vs = wipe σ vs ∧ tt σ2 H2 fun b H3 =>
        if b = true then te σ2 H3 fun y H4 => ∃ acc, H4 D = some (.lst acc) ∧ acc.length < sizeLine ∧ Nx (upd H4 D (.lst (acc ++ [y]))) else Nx H3) := by
  refine fun D nD => lc_range (fun i H => Same H1 H ∧ ∃ rs : List Addr, H D = some (.lst (rs.map V.ref)) ∧ rs.length = i ∧ rs.Nodup ∧ D ∉ rs ∧ (∀ r ∈ rs, H1 r = none) ∧ ∀ (j : Nat) r, rs[j]? = some r → H r = some (F j))
    ⟨same_new nD, [], by rw [upd_same]; rfl, rfl, List.nodup_nil, by simp, (fun r z => by cases z), (fun j r z => by simp at z)⟩ ?_ ?_
  · rintro i H hi ⟨sm, rs, hD, lr, nd, dr, fr, at_⟩
    refine step i H hi sm _ _ (fun p H'' np s2 ep => ⟨_, s2 _ _ hD, szl (by simp; omega), same_mut (sm.trans s2) nD, rs ++ [p], ?_, by simp [lr], ?_, ?_, ?_, ?_⟩)
    · rw [upd_same, List.map_append]; rfl
    · rw [List.nodup_append]
      refine ⟨nd, by simp, fun r hr q hq e => ?_⟩
      rw [List.mem_singleton.mp hq] at e
      subst e
      obtain ⟨j, hj⟩ := List.mem_iff_getElem?.mp hr
      rw [at_ j _ hj] at np
      cases np
    · intro z
      rcases List.mem_append.mp z with z | z
      · exact dr z
      · rw [List.mem_singleton.mp z] at hD
        rw [hD] at np
        cases np
    · intro r hr
      rcases List.mem_append.mp hr with hr | hr
      · exact fr r hr
      · rw [List.mem_singleton.mp hr]; exact sm.free np
    · intro j r hr
      have rD : r ≠ D := fun e => by
        rcases List.mem_append.mp (List.mem_of_getElem? hr) with z | z
        · exact dr (e ▸ z)
        · rw [List.mem_singleton.mp z] at e
          rw [e, hD] at np
          cases np
      rw [upd_ne rD]
      by_cases c : j < rs.length
      · rw [List.getElem?_append_left c] at hr
        exact s2 _ _ (at_ j r hr)
      · have hj : j = i := by
          have := (List.getElem?_eq_some_iff.mp hr).1
          simp at this
          omega
        subst hj
        rw [List.getElem?_append_right (by omega), lr, Nat.sub_self] at hr
        cases hr
        exact ep
  · rintro H ⟨sm, rs, hD, lr, nd, dr, fr, at_⟩
    exact h D rs H nD sm hD lr nd dr fr at_
end
/-! ### dicts with whole numbers for keys -/
section
variable {σ : L2.St} {H : Hp} {Q : VK} {td ty tx tv : TE} {p : Addr} {kvs : List (Key × V)} {t : Int} {v z : V} {nx bk ct : L2.St → Hp → Prop} {rt : VK}
def newD (H : Hp) (Q : VK) : Prop := ∀ p, H p = none → Q (.ref p) (upd H p (.dK []))
instance : Stp (tDNewK σ H Q) (newD H Q) := ⟨id⟩
theorem kD (h : ∀ p H', H p = none → Same H H' → H' p = some (.dK []) → Q (.ref p) H') : newD H Q := fun p np => h p _ np (same_new np) upd_same
def aD (x : V) (H : Hp) (R : Addr → Prop) : Prop := ∃ a, x = .ref a ∧ IsD H a ∧ R a
def gD2 (a : Addr) (y z : V) (H : Hp) (Q : VK) : Prop := ∃ o, DGet H a y o ∧ Q (o.getD z) H
instance : Stp (tDGet2 td ty tx σ H Q) (td σ H fun x H1 => aD x H1 fun a => ty σ H1 fun y H2 => tx σ H2 fun z H3 => gD2 a y z H3 Q) := ⟨id⟩
theorem k_aD {R : Addr → Prop} (e : H p = some (.dK kvs)) (h : R p) : aD (.ref p) H R := ⟨p, rfl, .inl ⟨kvs, .inl e⟩, h⟩
theorem k_gD2 (e : H p = some (.dK kvs)) (h : Q ((valV kvs (.inl t)).getD z) H) : gD2 p (.int t) z H Q := ⟨_, DGet.k (k := .inl t) e, h⟩
def pD (x y v : V) (H : Hp) (N : Hp → Prop) : Prop := ∃ a H4, x = .ref a ∧ DPut H a y v H4 ∧ N H4
instance : Stp (sDPut td ty tv ⟨nx, rt, bk, ct⟩ σ H) (tv σ H fun v H1 => td σ H1 fun x H2 => ty σ H2 fun y H3 => pD x y v H3 (nx σ)) := ⟨id⟩
theorem k_pD {N : Hp → Prop} (e : H p = some (.dK kvs)) (l : kvs.length < 100000) (h : N (upd H p (.dK (putK kvs (.inl t) v)))) : pD (.ref p) (.int t) v H N := ⟨p, _, rfl, DPut.k (k := .inl t) e (szl l), h⟩
def gMx (x : V) (H : Hp) (Q : VK) : Prop := ∃ (a : Addr) (kvs : List (Key × V)) (is : List Int), x = V.ref a ∧ H a = some (.dK kvs) ∧ kvs.map (·.2) = is.map V.int ∧ is ≠ [] ∧ ∀ m, m ∈ is → (∀ j ∈ is, j ≤ m) → Q (.int m) H
instance : Stp (tMaxVals td σ H Q) (td σ H fun x H1 => gMx x H1 Q) := ⟨id⟩
theorem k_gMx {is : List Int} (e : H p = some (.dK kvs)) (hv : kvs.map (·.2) = is.map V.int) (ne : is ≠ []) (h : ∀ m, m ∈ is → (∀ j ∈ is, j ≤ m) → Q (.int m) H) : gMx (.ref p) H Q := ⟨p, kvs, is, rfl, e, hv, ne, h⟩
end
/-- a dict of counts -/
structure Cnt (kvs : List (Key × V)) (c : Int → Nat) (m : Nat) : Prop where
  isI : ∃ is : List Int, kvs.map (·.2) = is.map V.int
  val : ∀ t, valV kvs (.inl t) = if c t = 0 then none else some (.int (c t : Nat))
  len : kvs.length ≤ m
theorem Cnt.nil : Cnt [] (fun _ => 0) 0 := ⟨⟨[], rfl⟩, fun t => by rw [valV_nil]; rfl, Nat.le_refl _⟩
theorem putK_lenN (c : List (Key × V)) (k : Key) (x : V) : (putK c k x).length ≤ c.length + 1 := by
  unfold putK
  split
  · rw [List.length_map]; omega
  · rw [List.length_append]; simp
theorem mapK_ints {k : Key} {x : Int} : ∀ (kvs : List (Key × V)) (is : List Int), kvs.map (·.2) = is.map V.int → ∃ is : List Int, (kvs.map fun kv => if kv.1 = k then (kv.1, V.int x) else kv).map (·.2) = is.map V.int
  | [], _, _ => ⟨[], rfl⟩
  | a :: r, [], h => by simp at h
  | a :: r, j :: js, h => by
    simp only [List.map_cons, List.cons.injEq] at h
    obtain ⟨is', h'⟩ := mapK_ints r js h.2
    by_cases c : a.1 = k
    · exact ⟨x :: is', by rw [List.map_cons, List.map_cons, if_pos c, h']; rfl⟩
    · exact ⟨j :: is', by rw [List.map_cons, List.map_cons, if_neg c, h', h.1]; rfl⟩
theorem putK_ints {kvs : List (Key × V)} {k : Key} {x : Int} (h : ∃ is : List Int, kvs.map (·.2) = is.map V.int) : ∃ is : List Int, (putK kvs k (.int x)).map (·.2) = is.map V.int := by
  obtain ⟨is, h⟩ := h
  unfold putK
  split
  · exact mapK_ints kvs is h
  · exact ⟨is ++ [x], by rw [List.map_append, List.map_append, h]; rfl⟩
theorem Cnt.put {kvs : List (Key × V)} {c : Int → Nat} {m : Nat} (h : Cnt kvs c m) (t : Int) {x : Int} (hx : x = ((c t + 1 : Nat) : Int)) : Cnt (putK kvs (.inl t) (.int x)) (fun s => if s = t then c s + 1 else c s) (m + 1) := by
  obtain ⟨h1, h2, h3⟩ := h
  refine ⟨putK_ints h1, fun s => ?_, Nat.le_trans (putK_lenN _ _ _) (by omega)⟩
  rw [valV_put]
  by_cases e : s = t
  · subst e
    rw [if_pos rfl, if_pos rfl, if_neg (by omega), hx]
  · rw [if_neg (fun z => e (by simpa using z)), if_neg e]
    exact h2 s
theorem Cnt.get {kvs : List (Key × V)} {c : Int → Nat} {m : Nat} (h : Cnt kvs c m) (t : Int) : (valV kvs (.inl t)).getD (.int 0) = .int (c t : Nat) := by
  rw [h.val t]
  split
  · rename_i e
    rw [e]; rfl
  · rfl
theorem Cnt.mem {kvs : List (Key × V)} {c : Int → Nat} {m : Nat} (h : Cnt kvs c m) {is : List Int} (hi : kvs.map (·.2) = is.map V.int) {t : Int} (ht : c t ≠ 0) : ((c t : Nat) : Int) ∈ is := by
  have hv := h.val t
  rw [if_neg ht] at hv
  unfold valV at hv
  obtain ⟨kv, hk, e⟩ := Option.map_eq_some_iff.mp hv
  have hm : V.int ((c t : Nat) : Int) ∈ is.map V.int := by
    rw [← hi, ← e]
    exact List.mem_map_of_mem (List.mem_of_find?_eq_some hk)
  obtain ⟨y, hy, e2⟩ := List.mem_map.mp hm
  cases e2
  exact hy
theorem Cnt.ext {kvs : List (Key × V)} {c c' : Int → Nat} {m m' : Nat} (h : Cnt kvs c m) (e : ∀ t, c t = c' t) (l : m ≤ m') : Cnt kvs c' m' := by
  obtain rfl : c = c' := funext e
  exact ⟨h.isI, h.val, Nat.le_trans h.len l⟩
/-! ### a list told by its places -/
theorem getR {n l : Nat} {f : Nat → Int} (h : l < n) : ((List.range n).map f)[l]? = some (f l) := by
  rw [List.getElem?_map, List.getElem?_range h]; rfl
theorem setR {n l : Nat} {f : Nat → Int} {v : Int} : ((List.range n).map f).set l v = (List.range n).map fun j => if j = l then v else f j := by
  refine List.ext_getElem? fun k => ?_
  rw [List.getElem?_set]
  by_cases c : l = k
  · subst c
    rw [if_pos rfl]
    by_cases d : l < n
    · rw [if_pos (by simpa using d), getR d, if_pos rfl]
    · rw [if_neg (by simpa using d), List.getElem?_eq_none (by simpa using d)]
  · rw [if_neg c]
    by_cases d : k < n
    · rw [getR d, getR d, if_neg (fun e => c e.symm)]
    · rw [List.getElem?_eq_none (by simpa using d), List.getElem?_eq_none (by simpa using d)]
end Cm

namespace Pf
open PySem PySem.Spec PyProof.Rows L2 Cm
local macro_rules | `(tactic| wtm_at "smh") => `(tactic| with_reducible first
  | assumption
  | (refine Same.trans ?_ (by assumption); wtm_at "smx")
  | (refine Same.trans ?_ (hid_mono (by assumption)); wtm_at "smx"))
local macro_rules | `(tactic| wtm_at "smx") => `(tactic| with_reducible first
  | exact Same.refl _
  | assumption
  | exact hid_same _ _
  | (refine Same.trans ?_ (by assumption); wtm_at "smx")
  | (refine Same.trans ?_ (hid_mono (by assumption)); wtm_at "smx")
  | (apply hid_back; wtm_at "smh"))
local macro_rules | `(tactic| wtm_at "sm") => `(tactic| wtm_at "smx")
local macro_rules | `(tactic| wtm_at "at") => `(tactic| with_reducible first
  | assumption
  | exact upd_same
  | (refine at_same (by assumption) ?_; wtm_at "smx"))
local macro_rules | `(tactic| wtm_at "le") => `(tactic| with_reducible first
  | assumption
  | (refine Le.same (by assumption) ?_; wtm_at "smx"))
local macro_rules | `(tactic| wtm_at "dp") => `(tactic| with_reducible first
  | assumption
  | exact .int _
  | exact .str _
  | exact .bl _
  | (refine dp_same ?_ (by assumption); wtm_at "smx")
  | (refine dpa_same ?_ (by assumption); wtm_at "smx")
  | (refine dpI_at (by assumption) ?_; wtm_at "smx")
  | (refine dpP_at (by assumption) ?_; wtm_at "smx"))
local macro_rules | `(tactic| wtm_at "sq") => `(tactic| with_reducible first
  | assumption
  | exact sl (by assumption)
  | exact stp (by assumption)
  | (refine sl_at (by assumption) ?_; wtm_at "smx")
  | (refine st_at (by assumption) ?_; wtm_at "smx")
  | (refine Same.seq ?_ (by assumption); wtm_at "smx")
  | (refine same_seqT ?_ (by assumption); wtm_at "smx")
  | ((show SqL _ (upd _ _ _) _ _); exact sl upd_same)
  | ((show SqT _ (upd _ _ _) _ _); exact stp upd_same))
local macro_rules | `(tactic| wtm_at "cI") => `(tactic| first
  | (refine Or.inl ⟨?_, ?_⟩ <;> omega)
  | (refine Or.inr ⟨?_, ?_⟩ <;> omega)
  | (refine ⟨?_, ?_⟩ <;> omega)
  | decide)
local macro_rules | `(tactic| wtm_at "pf") => `(tactic| first | omega | decide)
local macro_rules | `(tactic| wtm_at "s2") => `(tactic| with_reducible first
  | ((show ite _ _ _); first
    | refine k_itDT (by with_unfolding_all wtm_at "pf") ?_
    | refine k_itDF (by with_unfolding_all wtm_at "pf") ?_
    | refine k_itNT (by with_unfolding_all wtm_at "pf") ?_
    | refine k_itNF (by with_unfolding_all wtm_at "pf") ?_)
  | ((show rLen _ _ _ _); first
    | refine k_len0 (by assumption) ?_
    | refine k_lenI (by wtm_at "sq") ?_
    | refine k_len (by wtm_at "sq") ?_)
  | ((show gTup _ _ _ _ _ _ _); refine k_gtup (by wtm_at "sq") (by with_unfolding_all rfl) ?_)
  | ((show rIxT _ (V.ref _) (V.int _) _ _); refine k_ixT (by wtm_at "sq") (by with_unfolding_all rfl) ?_)
  | ((show wipe _ _ = wipe _ _ ∧ _); refine k_wipe (by with_unfolding_all rfl) ?_)
  | ((show rIn _ _ _ _ _ _); first
    | refine k_inI (by wtm_at "sq") ?_
    | refine k_notInI (by wtm_at "sq") ?_)
  | ((show rIsi _ _ _ _); refine k_isiL (by wtm_at "sq") ?_)
  | ((show xMod _ _ _ _); refine k_mod (by with_unfolding_all first | decide | omega) ?_)
  | ((show xMul _ _ _ _); refine k_mul (by with_unfolding_all wtm_at "cI") ?_)
  | ((show xDiv _ _ _ _); refine k_div (by with_unfolding_all wtm_at "cI") ?_)
  | ((show xPow _ _ _ _); refine k_pow (by with_unfolding_all exact ⟨by decide, by decide, by decide⟩) ?_)
  | ((show rMinT _ _ _ _); refine k_minT (by wtm_at "sq") ?_)
  | ((show rMaxT _ _ _ _); refine k_maxT (by wtm_at "sq") ?_)
  | ((show ∃ j' : Int, [V.int _] = [.int j'] ∧ _); refine k_rj1 (by with_unfolding_all omega) (by with_unfolding_all omega) ?_)
  | ((show ∃ i' j' : Int, [V.int _, V.int _] = [.int i', .int j'] ∧ _); refine k_rj2 (by with_unfolding_all omega) ?_))
local macro_rules | `(tactic| wtm_at "s1") => `(tactic| first
  | refine go ?_
  | wtm_at "s2")
local macro_rules | `(tactic| wtm_at "s") => `(tactic| repeat wtm_at "s1")
def topS (i : Nat) : Stmt := PySem.Challenge.pw_tiehues_k13_givers_refuse.main.body.getD i (.Pass ⟨0, 0, 0, 0⟩)
abbrev s_is_tree : Stmt := topS 9
theorem sc_is_tree : FnScope ["parents", "k"] ["parents"] (defScope s_is_tree) := ⟨rfl, rfl, rfl, by decide +kernel, rfl, by decide +kernel, by decide +kernel⟩
abbrev s_look_net : Stmt := topS 10
theorem sc_look_net : FnScope ["net", "kind", "size", "right"] ["net"] (defScope s_look_net) := ⟨rfl, rfl, rfl, by decide +kernel, rfl, by decide +kernel, by decide +kernel⟩
abbrev s_must_be_kind : Stmt := topS 11
theorem sc_must_be_kind : FnScope ["net", "kind"] ["net", "kind"] (defScope s_must_be_kind) := ⟨rfl, rfl, rfl, by decide +kernel, rfl, by decide +kernel, by decide +kernel⟩
abbrev s_places_of : Stmt := topS 12
theorem sc_places_of : FnScope ["net"] ["net"] (defScope s_places_of) := ⟨rfl, rfl, rfl, by decide +kernel, rfl, by decide +kernel, by decide +kernel⟩
abbrev s_is_way : Stmt := topS 13
theorem sc_is_way : FnScope ["net", "way", "a", "b"] ["net", "way"] (defScope s_is_way) := ⟨rfl, rfl, rfl, by decide +kernel, rfl, by decide +kernel, by decide +kernel⟩
abbrev s_ties_on : Stmt := topS 14
theorem sc_ties_on : FnScope ["net", "way", "a", "b", "found"] ["net", "way"] (defScope s_ties_on) := ⟨rfl, rfl, rfl, by decide +kernel, rfl, by decide +kernel, by decide +kernel⟩
abbrev s_must_be_ways : Stmt := topS 15
theorem sc_must_be_ways : FnScope ["net", "ways", "k"] ["net", "ways"] (defScope s_must_be_ways) := ⟨rfl, rfl, rfl, by decide +kernel, rfl, by decide +kernel, by decide +kernel⟩
abbrev s_look_ways : Stmt := topS 16
theorem sc_look_ways : FnScope ["net", "ways"] ["net", "ways"] (defScope s_look_ways) := ⟨rfl, rfl, rfl, by decide +kernel, rfl, by decide +kernel, by decide +kernel⟩
abbrev s_first_clash : Stmt := topS 17
theorem sc_first_clash : FnScope ["lain", "hues", "i", "j", "tie"] ["lain", "hues"] (defScope s_first_clash) := ⟨rfl, rfl, rfl, by decide +kernel, rfl, by decide +kernel, by decide +kernel⟩
abbrev s_clash : Stmt := topS 18
theorem sc_clash : FnScope ["net", "ways", "hues", "way"] ["net", "ways", "hues"] (defScope s_clash) := ⟨rfl, rfl, rfl, by decide +kernel, rfl, by decide +kernel, by decide +kernel⟩
abbrev s_hues_of : Stmt := topS 21
theorem sc_hues_of : FnScope ["level"] ["level"] (defScope s_hues_of) := ⟨rfl, rfl, rfl, by decide +kernel, rfl, by decide +kernel, by decide +kernel⟩
abbrev s_meet : Stmt := topS 22
theorem sc_meet : FnScope ["one", "other"] ["one", "other"] (defScope s_meet) := ⟨rfl, rfl, rfl, by decide +kernel, rfl, by decide +kernel, by decide +kernel⟩
abbrev s_shows : Stmt := topS 26
theorem sc_shows : FnScope ["net", "ways", "lines", "lain", "k", "way"] ["net", "ways", "lines"] (defScope s_shows) := ⟨rfl, rfl, rfl, by decide +kernel, rfl, by decide +kernel, by decide +kernel⟩
abbrev s_law_mix : Stmt := topS 28
theorem sc_law_mix : FnScope ["_law_number", "_law_k", "_law_mixed"] ["_law_number", "_law_k"] (defScope s_law_mix) := ⟨rfl, rfl, rfl, by decide +kernel, rfl, by decide +kernel, by decide +kernel⟩
abbrev s_law_cell_at : Stmt := topS 29
theorem sc_law_cell_at : FnScope ["_law_script", "_law_k"] ["_law_script", "_law_k"] (defScope s_law_cell_at) := ⟨rfl, rfl, rfl, by decide +kernel, rfl, by decide +kernel, by decide +kernel⟩
abbrev s_law_left : Stmt := topS 30
theorem sc_law_left : FnScope ["_law_script", "_law_k", "_law_cell"] ["_law_script", "_law_k"] (defScope s_law_left) := ⟨rfl, rfl, rfl, by decide +kernel, rfl, by decide +kernel, by decide +kernel⟩
abbrev s_law_draw : Stmt := topS 31
theorem sc_law_draw : FnScope ["_law_left_here", "_law_base", "_law_mixed", "_law_digit"] ["_law_left_here", "_law_base"] (defScope s_law_draw) := ⟨rfl, rfl, rfl, by decide +kernel, rfl, by decide +kernel, by decide +kernel⟩
abbrev s_law_line : Stmt := topS 32
theorem sc_law_line : FnScope ["_law_left_here"] ["_law_left_here"] (defScope s_law_line) := ⟨rfl, rfl, rfl, by decide +kernel, rfl, by decide +kernel, by decide +kernel⟩
abbrev s_law_way : Stmt := topS 33
theorem sc_law_way : FnScope ["_law_left_here", "_law_many", "_law_a", "_law_b"] ["_law_left_here", "_law_many"] (defScope s_law_way) := ⟨rfl, rfl, rfl, by decide +kernel, rfl, by decide +kernel, by decide +kernel⟩
abbrev s_law_refused : Stmt := topS 38
theorem sc_law_refused : FnScope ["_law_giver", "_law_way_here", "_law_caught", "e"] ["_law_giver", "_law_way_here"] (defScope s_law_refused) := ⟨rfl, rfl, rfl, by decide +kernel, rfl, by decide +kernel, by decide +kernel⟩
abbrev s_law_no_tie : Stmt := topS 39
theorem sc_law_no_tie : FnScope ["_law_giver", "_law_number", "_law_caught", "e"] ["_law_giver", "_law_number"] (defScope s_law_no_tie) := ⟨rfl, rfl, rfl, by decide +kernel, rfl, by decide +kernel, by decide +kernel⟩
abbrev s_law_other : Stmt := topS 40
theorem sc_law_other : FnScope ["_law_net", "_law_which", "_law_caught", "e"] ["_law_net", "_law_which"] (defScope s_law_other) := ⟨rfl, rfl, rfl, by decide +kernel, rfl, by decide +kernel, by decide +kernel⟩
abbrev s_law_as_clean : Stmt := topS 41
theorem sc_law_as_clean : FnScope ["_law_net", "_law_giver", "_law_clean", "_law_count", "_law_k"] ["_law_net", "_law_giver", "_law_clean", "_law_count"] (defScope s_law_as_clean) := ⟨rfl, rfl, rfl, by decide +kernel, rfl, by decide +kernel, by decide +kernel⟩
abbrev s_law : Stmt := topS 42
theorem sc_law : FnScope ["_law_script", "_law_cell", "_law_left_here", "_law_net", "_law_giver", "_law_clean", "_law_count", "_law_far", "_law_k", "_law_way_here", "_law_bad", "_law_kept", "_law_last", "_law_many", "_law_other_here", "_law_number"] ["_law_script"] (defScope s_law) := ⟨rfl, rfl, rfl, by decide +kernel, rfl, by decide +kernel, by decide +kernel⟩
abbrev s_Giver_init : Stmt := inClass (topS 24) 0
theorem sc_Giver_init : FnScope ["self", "net", "tie"] ["self", "net"] (defScope s_Giver_init) := ⟨rfl, rfl, rfl, by decide +kernel, rfl, by decide +kernel, by decide +kernel⟩
abbrev s_Giver_level_for : Stmt := inClass (topS 24) 1
theorem sc_Giver_level_for : FnScope ["self", "ties", "i", "tie"] ["self", "ties"] (defScope s_Giver_level_for) := ⟨rfl, rfl, rfl, by decide +kernel, rfl, by decide +kernel, by decide +kernel⟩
abbrev s_Giver_own_for : Stmt := inClass (topS 24) 2
theorem sc_Giver_own_for : FnScope ["self", "ties", "i", "tie"] ["self", "ties", "i"] (defScope s_Giver_own_for) := ⟨rfl, rfl, rfl, by decide +kernel, rfl, by decide +kernel, by decide +kernel⟩
abbrev s_Giver_counted_in : Stmt := inClass (topS 24) 3
theorem sc_Giver_counted_in : FnScope ["self", "ties", "i", "tie", "j"] ["self", "ties", "i"] (defScope s_Giver_counted_in) := ⟨rfl, rfl, rfl, by decide +kernel, rfl, by decide +kernel, by decide +kernel⟩
abbrev s_Giver_put : Stmt := inClass (topS 24) 4
theorem sc_Giver_put : FnScope ["self", "way", "ties", "i", "taken", "hue", "k", "one"] ["self", "way"] (defScope s_Giver_put) := ⟨rfl, rfl, rfl, by decide +kernel, rfl, by decide +kernel, by decide +kernel⟩
abbrev s_Giver_ways : Stmt := inClass (topS 24) 5
theorem sc_Giver_ways : FnScope ["self"] ["self"] (defScope s_Giver_ways) := ⟨rfl, rfl, rfl, by decide +kernel, rfl, by decide +kernel, by decide +kernel⟩
abbrev s_Giver_hues : Stmt := inClass (topS 24) 6
theorem sc_Giver_hues : FnScope ["self"] ["self"] (defScope s_Giver_hues) := ⟨rfl, rfl, rfl, by decide +kernel, rfl, by decide +kernel, by decide +kernel⟩
abbrev s_Giver_levels : Stmt := inClass (topS 24) 7
theorem sc_Giver_levels : FnScope ["self"] ["self"] (defScope s_Giver_levels) := ⟨rfl, rfl, rfl, by decide +kernel, rfl, by decide +kernel, by decide +kernel⟩
abbrev s_Giver_own_tie : Stmt := inClass (topS 24) 8
theorem sc_Giver_own_tie : FnScope ["self", "number"] ["self", "number"] (defScope s_Giver_own_tie) := ⟨rfl, rfl, rfl, by decide +kernel, rfl, by decide +kernel, by decide +kernel⟩
abbrev s_init_NoWay : Stmt := inClass (topS 4) 0
theorem sc_init_NoWay : FnScope ["self", "at"] ["self", "at"] (defScope s_init_NoWay) := ⟨rfl, rfl, rfl, by decide +kernel, rfl, by decide +kernel, by decide +kernel⟩
abbrev s_init_NoHues : Stmt := inClass (topS 6) 0
theorem sc_init_NoHues : FnScope ["self", "place"] ["self", "place"] (defScope s_init_NoHues) := ⟨rfl, rfl, rfl, by decide +kernel, rfl, by decide +kernel, by decide +kernel⟩
structure Ad where
  c_TieError : Addr
  c_NoNet : Addr
  c_OtherNet : Addr
  c_NoWay : Addr
  c_TooMany : Addr
  c_NoHues : Addr
  i_NoWay : Addr
  di_NoWay : FuncData
  i_NoHues : Addr
  di_NoHues : FuncData
  c_Giver : Addr
  a_is_tree : Addr
  d_is_tree : FuncData
  a_look_net : Addr
  d_look_net : FuncData
  a_must_be_kind : Addr
  d_must_be_kind : FuncData
  a_places_of : Addr
  d_places_of : FuncData
  a_is_way : Addr
  d_is_way : FuncData
  a_ties_on : Addr
  d_ties_on : FuncData
  a_must_be_ways : Addr
  d_must_be_ways : FuncData
  a_look_ways : Addr
  d_look_ways : FuncData
  a_first_clash : Addr
  d_first_clash : FuncData
  a_clash : Addr
  d_clash : FuncData
  a_hues_of : Addr
  d_hues_of : FuncData
  a_meet : Addr
  d_meet : FuncData
  a_shows : Addr
  d_shows : FuncData
  a_law_mix : Addr
  d_law_mix : FuncData
  a_law_cell_at : Addr
  d_law_cell_at : FuncData
  a_law_left : Addr
  d_law_left : FuncData
  a_law_draw : Addr
  d_law_draw : FuncData
  a_law_line : Addr
  d_law_line : FuncData
  a_law_way : Addr
  d_law_way : FuncData
  a_law_refused : Addr
  d_law_refused : FuncData
  a_law_no_tie : Addr
  d_law_no_tie : FuncData
  a_law_other : Addr
  d_law_other : FuncData
  a_law_as_clean : Addr
  d_law_as_clean : FuncData
  a_law : Addr
  d_law : FuncData
  a_Giver_init : Addr
  d_Giver_init : FuncData
  a_Giver_level_for : Addr
  d_Giver_level_for : FuncData
  a_Giver_own_for : Addr
  d_Giver_own_for : FuncData
  a_Giver_counted_in : Addr
  d_Giver_counted_in : FuncData
  a_Giver_put : Addr
  d_Giver_put : FuncData
  a_Giver_ways : Addr
  d_Giver_ways : FuncData
  a_Giver_hues : Addr
  d_Giver_hues : FuncData
  a_Giver_levels : Addr
  d_Giver_levels : FuncData
  a_Giver_own_tie : Addr
  d_Giver_own_tie : FuncData
structure Txt (K : PySem.W.Frag) (mg : Str → Option Value) (A : Ad) : Prop where
  g_is_tree : mg "is_tree" = some (.ref A.a_is_tree)
  F_is_tree : Fun K "is_tree" "is_tree" s_is_tree A.a_is_tree A.d_is_tree
  b_is_tree : Binds K A.d_is_tree ["parents"] []
  g_look_net : mg "look_net" = some (.ref A.a_look_net)
  F_look_net : Fun K "look_net" "look_net" s_look_net A.a_look_net A.d_look_net
  b_look_net : Binds K A.d_look_net ["net"] []
  g_must_be_kind : mg "must_be_kind" = some (.ref A.a_must_be_kind)
  F_must_be_kind : Fun K "must_be_kind" "must_be_kind" s_must_be_kind A.a_must_be_kind A.d_must_be_kind
  b_must_be_kind : Binds K A.d_must_be_kind ["net", "kind"] []
  g_places_of : mg "places_of" = some (.ref A.a_places_of)
  F_places_of : Fun K "places_of" "places_of" s_places_of A.a_places_of A.d_places_of
  b_places_of : Binds K A.d_places_of ["net"] []
  g_is_way : mg "is_way" = some (.ref A.a_is_way)
  F_is_way : Fun K "is_way" "is_way" s_is_way A.a_is_way A.d_is_way
  b_is_way : Binds K A.d_is_way ["net", "way"] []
  g_ties_on : mg "ties_on" = some (.ref A.a_ties_on)
  F_ties_on : Fun K "ties_on" "ties_on" s_ties_on A.a_ties_on A.d_ties_on
  b_ties_on : Binds K A.d_ties_on ["net", "way"] []
  g_must_be_ways : mg "must_be_ways" = some (.ref A.a_must_be_ways)
  F_must_be_ways : Fun K "must_be_ways" "must_be_ways" s_must_be_ways A.a_must_be_ways A.d_must_be_ways
  b_must_be_ways : Binds K A.d_must_be_ways ["net", "ways"] []
  g_look_ways : mg "look_ways" = some (.ref A.a_look_ways)
  F_look_ways : Fun K "look_ways" "look_ways" s_look_ways A.a_look_ways A.d_look_ways
  b_look_ways : Binds K A.d_look_ways ["net", "ways"] []
  g_first_clash : mg "first_clash" = some (.ref A.a_first_clash)
  F_first_clash : Fun K "first_clash" "first_clash" s_first_clash A.a_first_clash A.d_first_clash
  b_first_clash : Binds K A.d_first_clash ["lain", "hues"] []
  g_clash : mg "clash" = some (.ref A.a_clash)
  F_clash : Fun K "clash" "clash" s_clash A.a_clash A.d_clash
  b_clash : Binds K A.d_clash ["net", "ways", "hues"] []
  g_hues_of : mg "hues_of" = some (.ref A.a_hues_of)
  F_hues_of : Fun K "hues_of" "hues_of" s_hues_of A.a_hues_of A.d_hues_of
  b_hues_of : Binds K A.d_hues_of ["level"] []
  g_meet : mg "meet" = some (.ref A.a_meet)
  F_meet : Fun K "meet" "meet" s_meet A.a_meet A.d_meet
  b_meet : Binds K A.d_meet ["one", "other"] []
  g_shows : mg "shows" = some (.ref A.a_shows)
  F_shows : Fun K "shows" "shows" s_shows A.a_shows A.d_shows
  b_shows : Binds K A.d_shows ["net", "ways", "lines"] []
  g_law_mix : mg "_law_mix" = some (.ref A.a_law_mix)
  F_law_mix : Fun K "_law_mix" "_law_mix" s_law_mix A.a_law_mix A.d_law_mix
  b_law_mix : Binds K A.d_law_mix ["_law_number", "_law_k"] []
  g_law_cell_at : mg "_law_cell_at" = some (.ref A.a_law_cell_at)
  F_law_cell_at : Fun K "_law_cell_at" "_law_cell_at" s_law_cell_at A.a_law_cell_at A.d_law_cell_at
  b_law_cell_at : Binds K A.d_law_cell_at ["_law_script", "_law_k"] []
  g_law_left : mg "_law_left" = some (.ref A.a_law_left)
  F_law_left : Fun K "_law_left" "_law_left" s_law_left A.a_law_left A.d_law_left
  b_law_left : Binds K A.d_law_left ["_law_script", "_law_k"] []
  g_law_draw : mg "_law_draw" = some (.ref A.a_law_draw)
  F_law_draw : Fun K "_law_draw" "_law_draw" s_law_draw A.a_law_draw A.d_law_draw
  b_law_draw : Binds K A.d_law_draw ["_law_left_here", "_law_base"] []
  g_law_line : mg "_law_line" = some (.ref A.a_law_line)
  F_law_line : Fun K "_law_line" "_law_line" s_law_line A.a_law_line A.d_law_line
  b_law_line : Binds K A.d_law_line ["_law_left_here"] []
  g_law_way : mg "_law_way" = some (.ref A.a_law_way)
  F_law_way : Fun K "_law_way" "_law_way" s_law_way A.a_law_way A.d_law_way
  b_law_way : Binds K A.d_law_way ["_law_left_here", "_law_many"] []
  g_law_refused : mg "_law_refused" = some (.ref A.a_law_refused)
  F_law_refused : Fun K "_law_refused" "_law_refused" s_law_refused A.a_law_refused A.d_law_refused
  b_law_refused : Binds K A.d_law_refused ["_law_giver", "_law_way_here"] []
  g_law_no_tie : mg "_law_no_tie" = some (.ref A.a_law_no_tie)
  F_law_no_tie : Fun K "_law_no_tie" "_law_no_tie" s_law_no_tie A.a_law_no_tie A.d_law_no_tie
  b_law_no_tie : Binds K A.d_law_no_tie ["_law_giver", "_law_number"] []
  g_law_other : mg "_law_other" = some (.ref A.a_law_other)
  F_law_other : Fun K "_law_other" "_law_other" s_law_other A.a_law_other A.d_law_other
  b_law_other : Binds K A.d_law_other ["_law_net", "_law_which"] []
  g_law_as_clean : mg "_law_as_clean" = some (.ref A.a_law_as_clean)
  F_law_as_clean : Fun K "_law_as_clean" "_law_as_clean" s_law_as_clean A.a_law_as_clean A.d_law_as_clean
  b_law_as_clean : Binds K A.d_law_as_clean ["_law_net", "_law_giver", "_law_clean", "_law_count"] []
  g_law : mg "law" = some (.ref A.a_law)
  F_law : Fun K "law" "law" s_law A.a_law A.d_law
  b_law : Binds K A.d_law ["_law_script"] []
  k_Giver : mg "Giver" = some (.ref A.c_Giver)
  M_Giver : Mk K A.c_Giver A.a_Giver_init
  F_Giver_init : Fun K "__init__" "Giver.__init__" s_Giver_init A.a_Giver_init A.d_Giver_init
  K_Giver : Cls K A.c_Giver
  N_Giver_net : NoAttr K A.c_Giver "net"
  N_Giver_come : NoAttr K A.c_Giver "come"
  N_Giver_lain : NoAttr K A.c_Giver "lain"
  N_Giver_given : NoAttr K A.c_Giver "given"
  N_Giver_level : NoAttr K A.c_Giver "level"
  N_Giver_own : NoAttr K A.c_Giver "own"
  N_Giver_upto : NoAttr K A.c_Giver "upto"
  b_Giver_init : Binds K A.d_Giver_init ["self", "net"] []
  Me_Giver_level_for : Meth K A.c_Giver "level_for" A.a_Giver_level_for
  F_Giver_level_for : Fun K "level_for" "Giver.level_for" s_Giver_level_for A.a_Giver_level_for A.d_Giver_level_for
  b_Giver_level_for : Binds K A.d_Giver_level_for ["self", "ties"] []
  Me_Giver_own_for : Meth K A.c_Giver "own_for" A.a_Giver_own_for
  F_Giver_own_for : Fun K "own_for" "Giver.own_for" s_Giver_own_for A.a_Giver_own_for A.d_Giver_own_for
  b_Giver_own_for : Binds K A.d_Giver_own_for ["self", "ties", "i"] []
  Me_Giver_counted_in : Meth K A.c_Giver "counted_in" A.a_Giver_counted_in
  F_Giver_counted_in : Fun K "counted_in" "Giver.counted_in" s_Giver_counted_in A.a_Giver_counted_in A.d_Giver_counted_in
  b_Giver_counted_in : Binds K A.d_Giver_counted_in ["self", "ties", "i"] []
  Me_Giver_put : Meth K A.c_Giver "put" A.a_Giver_put
  F_Giver_put : Fun K "put" "Giver.put" s_Giver_put A.a_Giver_put A.d_Giver_put
  b_Giver_put : Binds K A.d_Giver_put ["self", "way"] []
  Me_Giver_ways : Meth K A.c_Giver "ways" A.a_Giver_ways
  F_Giver_ways : Fun K "ways" "Giver.ways" s_Giver_ways A.a_Giver_ways A.d_Giver_ways
  b_Giver_ways : Binds K A.d_Giver_ways ["self"] []
  Me_Giver_hues : Meth K A.c_Giver "hues" A.a_Giver_hues
  F_Giver_hues : Fun K "hues" "Giver.hues" s_Giver_hues A.a_Giver_hues A.d_Giver_hues
  b_Giver_hues : Binds K A.d_Giver_hues ["self"] []
  Me_Giver_levels : Meth K A.c_Giver "levels" A.a_Giver_levels
  F_Giver_levels : Fun K "levels" "Giver.levels" s_Giver_levels A.a_Giver_levels A.d_Giver_levels
  b_Giver_levels : Binds K A.d_Giver_levels ["self"] []
  Me_Giver_own_tie : Meth K A.c_Giver "own_tie" A.a_Giver_own_tie
  F_Giver_own_tie : Fun K "own_tie" "Giver.own_tie" s_Giver_own_tie A.a_Giver_own_tie A.d_Giver_own_tie
  b_Giver_own_tie : Binds K A.d_Giver_own_tie ["self", "number"] []
  c_MOST_PLACES : mg "MOST_PLACES" = some (.int 60 (g_tok mg "MOST_PLACES"))
  c_MOST_WAYS : mg "MOST_WAYS" = some (.int 40 (g_tok mg "MOST_WAYS"))
  z_ValueError : mg "ValueError" = none
  z_int : mg "int" = none
  z_isinstance : mg "isinstance" = none
  z_len : mg "len" = none
  z_list : mg "list" = none
  z_max : mg "max" = none
  z_min : mg "min" = none
  z_range : mg "range" = none
  z_sorted : mg "sorted" = none
  k_TieError : mg "TieError" = some (.ref A.c_TieError)
  x_TieError : ExK K A.c_TieError
  t_TieError : PySem.W.typeIn K (.ref A.c_TieError) = some (.type "type")
  k_NoNet : mg "NoNet" = some (.ref A.c_NoNet)
  x_NoNet : ExK K A.c_NoNet
  t_NoNet : PySem.W.typeIn K (.ref A.c_NoNet) = some (.type "type")
  k_OtherNet : mg "OtherNet" = some (.ref A.c_OtherNet)
  x_OtherNet : ExK K A.c_OtherNet
  t_OtherNet : PySem.W.typeIn K (.ref A.c_OtherNet) = some (.type "type")
  k_NoWay : mg "NoWay" = some (.ref A.c_NoWay)
  x_NoWay : ExK K A.c_NoWay
  t_NoWay : PySem.W.typeIn K (.ref A.c_NoWay) = some (.type "type")
  k_TooMany : mg "TooMany" = some (.ref A.c_TooMany)
  x_TooMany : ExK K A.c_TooMany
  t_TooMany : PySem.W.typeIn K (.ref A.c_TooMany) = some (.type "type")
  k_NoHues : mg "NoHues" = some (.ref A.c_NoHues)
  x_NoHues : ExK K A.c_NoHues
  t_NoHues : PySem.W.typeIn K (.ref A.c_NoHues) = some (.type "type")
  o_NoWay : OexC K A.c_NoWay
  in_NoWay : PySem.W.findIn K (.ref A.c_NoWay) "__init__" = some (some (.ref A.i_NoWay))
  ti_NoWay : PySem.W.typeIn K (.ref A.i_NoWay) = some (.type "function")
  Fi_NoWay : Fun K "__init__" "NoWay.__init__" s_init_NoWay A.i_NoWay A.di_NoWay
  bi_NoWay : Binds K A.di_NoWay ["self", "at"] []
  nf_NoWay : PySem.W.findIn K (.ref A.c_NoWay) "at" = some none
  o_NoHues : OexC K A.c_NoHues
  in_NoHues : PySem.W.findIn K (.ref A.c_NoHues) "__init__" = some (some (.ref A.i_NoHues))
  ti_NoHues : PySem.W.typeIn K (.ref A.i_NoHues) = some (.type "function")
  Fi_NoHues : Fun K "__init__" "NoHues.__init__" s_init_NoHues A.i_NoHues A.di_NoHues
  bi_NoHues : Binds K A.di_NoHues ["self", "place"] []
  nf_NoHues : PySem.W.findIn K (.ref A.c_NoHues) "place" = some none
  base_ : BaseI K mg A.c_TieError "TieError"
  u_NoWay : PySem.W.subIn K (.ref A.c_NoWay) (.ref A.c_TieError) = some true
  q_NoWay_NoHues : PySem.W.kitOne K (.ref A.c_NoWay) (.ref A.c_NoHues) = some false
  q_NoWay_NoNet : PySem.W.kitOne K (.ref A.c_NoWay) (.ref A.c_NoNet) = some false
  q_NoWay_NoWay : PySem.W.kitOne K (.ref A.c_NoWay) (.ref A.c_NoWay) = some true
  q_NoWay_OtherNet : PySem.W.kitOne K (.ref A.c_NoWay) (.ref A.c_OtherNet) = some false
  q_NoWay_TooMany : PySem.W.kitOne K (.ref A.c_NoWay) (.ref A.c_TooMany) = some false
  q_NoWay_ValueError : PySem.W.kitOne K (.ref A.c_NoWay) (.type "ValueError") = some true
  e_OtherNet : PySem.W.excIn K A.c_OtherNet [.type "ValueError", .type "Exception", .type "BaseException", .type "object"] "ValueError.__new__" = true
  p_OtherNet : PySem.W.keepIn K (.ref A.c_OtherNet) = true
  u_OtherNet : PySem.W.subIn K (.ref A.c_OtherNet) (.ref A.c_TieError) = some true
  q_OtherNet_NoHues : PySem.W.kitOne K (.ref A.c_OtherNet) (.ref A.c_NoHues) = some false
  q_OtherNet_NoNet : PySem.W.kitOne K (.ref A.c_OtherNet) (.ref A.c_NoNet) = some false
  q_OtherNet_NoWay : PySem.W.kitOne K (.ref A.c_OtherNet) (.ref A.c_NoWay) = some false
  q_OtherNet_OtherNet : PySem.W.kitOne K (.ref A.c_OtherNet) (.ref A.c_OtherNet) = some true
  q_OtherNet_TooMany : PySem.W.kitOne K (.ref A.c_OtherNet) (.ref A.c_TooMany) = some false
  q_OtherNet_ValueError : PySem.W.kitOne K (.ref A.c_OtherNet) (.type "ValueError") = some true
  e_TooMany : PySem.W.excIn K A.c_TooMany [.type "ValueError", .type "Exception", .type "BaseException", .type "object"] "ValueError.__new__" = true
  p_TooMany : PySem.W.keepIn K (.ref A.c_TooMany) = true
  u_TooMany : PySem.W.subIn K (.ref A.c_TooMany) (.ref A.c_TieError) = some true
  q_TooMany_NoHues : PySem.W.kitOne K (.ref A.c_TooMany) (.ref A.c_NoHues) = some false
  q_TooMany_NoNet : PySem.W.kitOne K (.ref A.c_TooMany) (.ref A.c_NoNet) = some false
  q_TooMany_NoWay : PySem.W.kitOne K (.ref A.c_TooMany) (.ref A.c_NoWay) = some false
  q_TooMany_OtherNet : PySem.W.kitOne K (.ref A.c_TooMany) (.ref A.c_OtherNet) = some false
  q_TooMany_TooMany : PySem.W.kitOne K (.ref A.c_TooMany) (.ref A.c_TooMany) = some true
  q_TooMany_ValueError : PySem.W.kitOne K (.ref A.c_TooMany) (.type "ValueError") = some true
/-! ### nets -/
inductive Net where
  | line (n : Int)
  | ring (n : Int)
  | tree (ps : List Int)
def Net.kind : Net → Str
  | .line _ => Str.ofString "line"
  | .ring _ => Str.ofString "ring"
  | .tree _ => Str.ofString "tree"
def Net.size : Net → PyData
  | .line n => .int n
  | .ring n => .int n
  | .tree ps => dInts ps
abbrev Net.d (N : Net) : PyData := .tuple [.str N.kind, N.size]
def TreeOk (ps : List Int) : Prop := 1 ≤ ps.length ∧ ps.length < 60 ∧ ∀ k : Nat, k < ps.length → 0 ≤ ps.getD k 0 ∧ ps.getD k 0 ≤ k
def Net.ok : Net → Prop
  | .line n => 2 ≤ n ∧ n ≤ 60
  | .ring n => 3 ≤ n ∧ n ≤ 60
  | .tree ps => TreeOk ps
def Net.places : Net → Int
  | .line n => n
  | .ring n => n
  | .tree ps => ps.length + 1
theorem net_str {s t : Str} (h : decide (V.str s = V.str t) = true) : s = t := V.str.inj (of_decide_eq_true h)
/-- a net's tuple -/
theorem dp_net {K : PySem.W.Frag} {H : Hp} {v : V} {N : Net} (h : Dp K H v N.d) : ∃ a y, v = .ref a ∧ SqT K H a [.str N.kind, y] ∧ Dp K H y N.size := by
  obtain ⟨a, x, y, rfl, hs, hx, hy⟩ := dp_tup2 h
  obtain rfl := dp_str hx
  exact ⟨a, y, rfl, hs, hy⟩
theorem k_eqS {s t : Str} {H : Hp} {Q : VK} (h : Q (.bl (decide (s = t))) H) : rEq (.str s) (.str t) H Q := ⟨rfl, by
  have e : decide (V.str s = V.str t) = decide (s = t) := by
    by_cases c : s = t
    · rw [decide_eq_true c, decide_eq_true (by rw [c])]
    · rw [decide_eq_false c, decide_eq_false (fun z => c (V.str.inj z))]
  rw [e]; exact h⟩
theorem k_neS {s t : Str} {H : Hp} {Q : VK} (h : Q (.bl (!decide (s = t))) H) : rNe (.str s) (.str t) H Q := ⟨rfl, by
  have e : decide (V.str s = V.str t) = decide (s = t) := by
    by_cases c : s = t
    · rw [decide_eq_true c, decide_eq_true (by rw [c])]
    · rw [decide_eq_false c, decide_eq_false (fun z => c (V.str.inj z))]
  rw [e]; exact h⟩
theorem s_lt : decide (Str.ofString "line" = Str.ofString "tree") = false := by decide +kernel
theorem s_rt : decide (Str.ofString "ring" = Str.ofString "tree") = false := by decide +kernel
theorem s_lr : decide (Str.ofString "line" = Str.ofString "ring") = false := by decide +kernel
theorem s_rl : decide (Str.ofString "ring" = Str.ofString "line") = false := by decide +kernel
theorem s_tl : decide (Str.ofString "tree" = Str.ofString "line") = false := by decide +kernel
theorem s_tr : decide (Str.ofString "tree" = Str.ofString "ring") = false := by decide +kernel
theorem s_same (s : Str) : decide (s = s) = true := decide_eq_true rfl
/-- how far t lies up from a on a ring of n -/
def up (n a t : Int) : Int := if a ≤ t then t - a else t - a + n
/-- x lies in the part of the tree that hangs by k -/
def below (ps : List Int) (k : Nat) : Nat → Bool
  | 0 => decide (k = 0)
  | x + 1 => decide (k = x + 1) || (decide (k < x + 1) && if h : (ps.getD x 0).toNat < x + 1 then below ps k (ps.getD x 0).toNat else false)
termination_by x => x
decreasing_by exact h
def OnTie : Net → Int → Int → Int → Prop
  | .line _, a, b, t => min a b ≤ t ∧ t < max a b
  | .ring n, a, b, t => 0 ≤ t ∧ t < n ∧ up n a t < up n a b
  | .tree ps, a, b, t => 0 ≤ t ∧ t < ps.length ∧ below ps (t.toNat + 1) a.toNat ≠ below ps (t.toNat + 1) b.toNat
def Net.far : Net → Int → Int → List Int → Prop
  | .line _, a, b, ns => (ns.length : Int) = max a b - min a b
  | .ring n, a, b, ns => (ns.length : Int) = up n a b
  | .tree _, _, _, ns => ns.length < 120
def isWay (N : Net) (a b : Int) : Prop := a ≠ b ∧ 0 ≤ a ∧ 0 ≤ b ∧ a < N.places ∧ b < N.places
instance (N : Net) (a b : Int) : Decidable (isWay N a b) := by unfold isWay; infer_instance
structure TiesOf (N : Net) (a b : Int) (ns : List Int) : Prop where
  srt : ns.Pairwise (· < ·)
  mem : ∀ t, t ∈ ns ↔ OnTie N a b t
  far : N.far a b ns

variable {P : Program} {w : World} {K : PySem.W.Frag} {mg : Str → Option Value} {base : Heap} {A : Ad}
def pr_is_tree (K : PySem.W.Frag) (v0 : V) (H : Hp) (Q : VK) (_ : XK) : Prop := ∃ ps, Dp K H v0 (dInts ps) ∧ ps.length ≤ 10000 ∧ ∀ b, (b = true ↔ TreeOk ps) → Q (.bl b) H
def t_is_tree (K : PySem.W.Frag) : TS :=
  (tSeq (tIfS (tOr (tTest (tOp xLt (tCB (rLen K) (tCons (tVar 0) tNil)) (tC (.int 1)))) (tTest (tOp xGe (tCB (rLen K) (tCons (tVar 0) tNil)) (tC (.int 60))))) (tRet (tC (.bl false))) tNext)
    (tSeq (tFor (iRng1 (tCons (tCB (rLen K) (tCons (tVar 0) tNil)) tNil)) (gName 1)
      (tIfS (tOr (tTest (tOp xLt (tOp (rIxL K) (tVar 0) (tVar 1)) (tC (.int 0)))) (tTest (tOp xGt (tOp (rIxL K) (tVar 0) (tVar 1)) (tVar 1)))) (tRet (tC (.bl false))) tNext))
    (tRet (tC (.bl true)))))
theorem pure_is_tree {v0 : V} {H : Hp} {Q : VK} {E : XK} (h : pr_is_tree K v0 H Q E) : t_is_tree K ⟨fun _ H' => Q .non H', Q, fun _ _ => False, fun _ _ => False⟩ [some v0, none] H := by
  obtain ⟨ps, hp, hz, q⟩ := h
  obtain ⟨a, rfl, ha⟩ := dp_ints hp
  unfold t_is_tree
  wtm_at "s"
  refine k_it (fun c1 => ?_) (fun c1 => ?_)
  · wtm_at "s"
    exact q _ (ff_iff fun z => absurd z.1 (by omega))
  wtm_at "s"
  refine k_it (fun c2 => ?_) (fun c2 => ?_)
  · wtm_at "s"
    exact q _ (ff_iff fun z => absurd z.2.1 (by omega))
  wtm_at "s"
  refine forR (fun i σ' H' => H' = H ∧ (∃ k, σ' = [some (.ref a), k]) ∧ ∀ k : Nat, k < i → 0 ≤ ps.getD k 0 ∧ ps.getD k 0 ≤ k) ⟨rfl, ⟨none, rfl⟩, fun k hk => absurd hk (by omega)⟩ ?_ ?_
  · rintro i σ' H' hi ⟨rfl, ⟨k, rfl⟩, hk⟩
    wtm_at "s"
    refine k_ixI ha (by omega) (by omega) ?_
    wtm_at "s"
    rw [show (0 + (i : Int)).toNat = i by omega]
    refine k_it (fun c3 => ?_) (fun c3 => ?_)
    · wtm_at "s"
      exact q _ (ff_iff fun z => absurd (z.2.2 i (by omega)).1 (by omega))
    wtm_at "s"
    refine k_ixI ha (by omega) (by omega) ?_
    wtm_at "s"
    rw [show (0 + (i : Int)).toNat = i by omega]
    refine k_it (fun c4 => ?_) (fun c4 => ?_)
    · wtm_at "s"
      exact q _ (ff_iff fun z => absurd (z.2.2 i (by omega)).2 (by omega))
    wtm_at "s"
    refine ⟨rfl, ⟨_, rfl⟩, fun k hk' => ?_⟩
    by_cases e : k = i
    · subst e; omega
    · exact hk k (by omega)
  · rintro σ' H' ⟨rfl, ⟨k, rfl⟩, hk⟩
    wtm_at "s"
    exact q _ (tt_iff ⟨by omega, by omega, fun k h => hk k (by omega)⟩)
abbrev sp_is_tree (K : PySem.W.Frag) : Sp := fun vs H Q E => ∃ v0, vs = [v0] ∧ pr_is_tree K v0 H Q E
theorem ok_is_tree (T : Txt K mg A) : FnOk P w K mg base CX0 1 A.a_is_tree A.d_is_tree ["parents"] (sp_is_tree K) := by
  refine T.F_is_tree.ok sc_is_tree (fun vs H Q E h => by obtain ⟨v0, rfl, _⟩ := h; rfl) (fun cdv A0 outer s H vs Q E hr h => ?_)
  obtain ⟨v0, rfl, h⟩ := h
  exact ⟨t_is_tree K, (pss_cons (ps_if (PW.pt (pw_or (pt_cmpR op_lt (pe_callB q_len (by rfl) T.z_len (by decide +kernel) (pa_cons (pv 0) pa_nil)) pe_int (nomark _)) (pw_or1 (pt_cmpR op_ge (pe_callB q_len (by rfl) T.z_len (by decide +kernel) (pa_cons (pv 0) pa_nil)) (pe_glob (v := .int 60) (by rfl) T.c_MOST_PLACES ⟨_, rfl⟩) (nomark _))))) (pss_one (ps_ret pe_bl)) pss_nil)
      (pss_cons (ps_for PassesOwn.never rfl (pi_range1 (by rfl) T.z_range (pa_cons (pe_callB q_len (by rfl) T.z_len (by decide +kernel) (pa_cons (pv 0) pa_nil)) pa_nil)) (pg_name (i := 1) sc_is_tree.nd rfl (Or.inl rfl))
      (pss_one (ps_if (PW.pt (pw_or (pt_cmpR op_lt (pe_ix ix_list (pv 0) (pv 1) (fun _ _ => rfl)) pe_int (nomark _)) (pw_or1 (pt_cmpR op_gt (pe_ix ix_list (pv 0) (pv 1) (fun _ _ => rfl)) (pv 1) (nomark _))))) (pss_one (ps_ret pe_bl)) pss_nil)))
      (pss_one (ps_ret pe_bl)))), pure_is_tree h⟩
def pr_look_net (K : PySem.W.Frag) (v0 : V) (H : Hp) (Q : VK) (_ : XK) : Prop := ∃ N : Net, Dp K H v0 N.d ∧ N.ok ∧ Q .non H
def t_look_net (K : PySem.W.Frag) : TS :=
  (tSeq (tAsg (tVar 0) (gTup K 2 (gCons (gName 1) (gCons (gName 2) gNil))))
    (tSeq (tIfS (tTest (tOp rEq (tVar 1) (tC (.str (Str.ofString "tree"))))) (tAsg (tAndV (tCB (rIsi K) (tCons (tVar 2) (tCons (tC (.ty "list")) tNil))) (tCall (sp_is_tree K) [] E0 (tCons (tVar 2) tNil))) (gName 3)) (tIfS (tOr (tTest (tOp rEq (tVar 1) (tC (.str (Str.ofString "line"))))) (tTest (tOp rEq (tVar 1) (tC (.str (Str.ofString "ring")))))) (tAsg (tAndV (tNotV (tCB (rIsi K) (tCons (tVar 2) (tCons (tC (.ty "list")) tNil)))) (tAndV (tOp xGe (tVar 2) (tOp xAdd (tC (.int 2)) (tCB rIntOf (tCons (tOp rEq (tVar 1) (tC (.str (Str.ofString "ring")))) tNil)))) (tOp xLe (tVar 2) (tC (.int 60))))) (gName 3)) (tAsg (tC (.bl false)) (gName 3))))
    (tIfS (tNot (tB (tVar 3))) tNever tNext)))
theorem pure_look_net {v0 : V} {H : Hp} {Q : VK} {E : XK} (h : pr_look_net K v0 H Q E) : t_look_net K ⟨fun _ H' => Q .non H', Q, fun _ _ => False, fun _ _ => False⟩ [some v0, none, none, none] H := by
  obtain ⟨N, hd, ok, q⟩ := h
  obtain ⟨a, y, rfl, hs, hy⟩ := dp_net hd
  unfold t_look_net
  cases N with
  | line n =>
    obtain rfl := dp_int hy
    obtain ⟨o1, o2⟩ := ok
    wtm_at "s"
    refine k_eqS ?_
    rw [show Net.kind (.line n) = Str.ofString "line" from rfl, s_lt]
    wtm_at "s"
    refine k_eqS ?_
    rw [s_same]
    wtm_at "s"
    refine k_eqS ?_
    rw [s_lr]
    wtm_at "s"
    have e1 : decide (2 + (if false = true then 1 else 0) ≤ n) = true := by simp; omega
    rw [e1]
    wtm_at "s"
    exact q
  | ring n =>
    obtain rfl := dp_int hy
    obtain ⟨o1, o2⟩ := ok
    wtm_at "s"
    refine k_eqS ?_
    rw [show Net.kind (.ring n) = Str.ofString "ring" from rfl, s_rt]
    wtm_at "s"
    refine k_eqS ?_
    rw [s_rl]
    wtm_at "s"
    refine k_eqS ?_
    rw [s_same]
    wtm_at "s"
    refine k_eqS ?_
    rw [s_same]
    wtm_at "s"
    exact q
  | tree ps =>
    obtain ⟨b, rfl, hb⟩ := dp_ints hy
    wtm_at "s"
    refine k_eqS ?_
    rw [show Net.kind (.tree ps) = Str.ofString "tree" from rfl, s_same]
    wtm_at "s"
    refine ⟨_, rfl, ps, hy, by have := ok.2.1; omega, fun r hr => ?_⟩
    obtain rfl := hr.mpr ok
    wtm_at "s"
    exact q
abbrev sp_look_net (K : PySem.W.Frag) : Sp := fun vs H Q E => ∃ v0, vs = [v0] ∧ pr_look_net K v0 H Q E
theorem ok_look_net (T : Txt K mg A) : FnOk P w K mg base CX0 2 A.a_look_net A.d_look_net ["net"] (sp_look_net K) := by
  refine T.F_look_net.ok sc_look_net (fun vs H Q E h => by obtain ⟨v0, rfl, _⟩ := h; rfl) (fun cdv A0 outer s H vs Q E hr h => ?_)
  obtain ⟨v0, rfl, h⟩ := h
  exact ⟨t_look_net K, (pss_cons (ps_asg (pv 0) (pg_tup (by rfl) (pgs_cons (pg_name (i := 1) sc_look_net.nd rfl (Or.inl rfl)) (pgs_cons (pg_name (i := 2) sc_look_net.nd rfl (Or.inl rfl)) pgs_nil))))
      (pss_cons (ps_if (pt_cmpR op_eq (pv 1) pe_str (nomark _)) (pss_one (ps_set (i := 3) sc_look_net.nd rfl (Or.inl rfl) (pe_and (pe_callB q_isi (by rfl) T.z_isinstance (by decide +kernel) (pa_cons (pv 2) (pa_cons (pe_bltn (v := .ty "list") (by rfl) T.z_list (by decide +kernel) rfl) pa_nil))) (pe_one (pe_call (ok_is_tree T) (hr.mono (by decide)) (by rfl) T.g_is_tree T.F_is_tree.kp T.b_is_tree .nil pass0 (pa_cons (pv 2) pa_nil)))))) (pss_one (ps_if (PW.pt (pw_or (pt_cmpR op_eq (pv 1) pe_str (nomark _)) (pw_or1 (pt_cmpR op_eq (pv 1) pe_str (nomark _))))) (pss_one (ps_set (i := 3) sc_look_net.nd rfl (Or.inl rfl) (pe_and (pe_not (pe_callB q_isi (by rfl) T.z_isinstance (by decide +kernel) (pa_cons (pv 2) (pa_cons (pe_bltn (v := .ty "list") (by rfl) T.z_list (by decide +kernel) rfl) pa_nil)))) (pe_and (pe_cmpR op_ge (pv 2) (pe_op op_add pe_int (pe_callTy q_intB (by rfl) T.z_int (by decide +kernel) (pa_cons (pe_cmpR op_eq (pv 1) pe_str (nomark _)) pa_nil))) (nomark _)) (pe_one (pe_cmpR op_le (pv 2) (pe_glob (v := .int 60) (by rfl) T.c_MOST_PLACES ⟨_, rfl⟩) (nomark _))))))) (pss_one (ps_set (i := 3) sc_look_net.nd rfl (Or.inl rfl) pe_bl)))))
      (pss_one (ps_if (pt_not (pt_val (pv 3))) (pss_one ps_never) pss_nil)))), pure_look_net h⟩
def pr_must_be_kind (K : PySem.W.Frag) (A : Ad) (v0 v1 : V) (H : Hp) (Q : VK) (E : XK) : Prop := ∃ (N : Net) (k : Str), v1 = .str k ∧ Dp K H v0 N.d ∧ N.ok ∧ ((N.kind ≠ k ∧ E (.ref A.c_OtherNet) none H) ∨ (N.kind = k ∧ Q .non H))
def t_must_be_kind (K : PySem.W.Frag) (A : Ad) (E : XK) : TS :=
  (tSeq (tDrop (tCall (sp_look_net K) [] E0 (tCons (tVar 0) tNil)))
    (tIfS (tTest (tOp rNe (tOp (rIxT K) (tVar 0) (tC (.int 0))) (tVar 1))) (tRaiseP A.c_OtherNet E) tNext))
theorem pure_must_be_kind {v0 v1 : V} {H : Hp} {Q : VK} {E : XK} (h : pr_must_be_kind K A v0 v1 H Q E) : t_must_be_kind K A E ⟨fun _ H' => Q .non H', Q, fun _ _ => False, fun _ _ => False⟩ [some v0, some v1] H := by
  obtain ⟨N, k, rfl, hd, ok, h⟩ := h
  obtain ⟨a, y, rfl, hs, hy⟩ := dp_net hd
  unfold t_must_be_kind
  wtm_at "s"
  refine ⟨_, rfl, N, hd, ok, ?_⟩
  wtm_at "s"
  refine k_neS ?_
  rcases h with ⟨hk, hE⟩ | ⟨hk, hQ⟩
  · rw [decide_eq_false hk]
    wtm_at "s"
    exact hE
  · rw [decide_eq_true hk]
    wtm_at "s"
    exact hQ
abbrev sp_must_be_kind (K : PySem.W.Frag) (A : Ad) : Sp := fun vs H Q E => ∃ v0 v1, vs = [v0, v1] ∧ pr_must_be_kind K A v0 v1 H Q E
theorem ok_must_be_kind (T : Txt K mg A) : FnOk P w K mg base (L2.CX P w) 3 A.a_must_be_kind A.d_must_be_kind ["net", "kind"] (sp_must_be_kind K A) := by
  refine T.F_must_be_kind.okX sc_must_be_kind (fun vs H Q E h => by obtain ⟨v0, v1, rfl, _⟩ := h; rfl) (fun cdv A0 outer s H vs Q E hr h => ?_)
  obtain ⟨v0, v1, rfl, h⟩ := h
  exact ⟨t_must_be_kind K A E, (pss_cons (ps_expr (pe_call (ok_look_net T) (hr.mono (by decide)) (by rfl) T.g_look_net T.F_look_net.kp T.b_look_net .nil pass0 (pa_cons (pv 0) pa_nil)))
      (pss_one (ps_if (pt_cmpR op_ne (pe_ix ix_tup (pv 0) pe_int (fun _ _ => rfl)) (pv 1) (nomark _)) (pss_one (ps_raise rfl (takes_of rfl rfl rfl rfl) (pmk_own PySem.F.excBase_ValueError T.e_OtherNet T.k_OtherNet T.p_OtherNet (raises_own T.x_OtherNet.hs T.t_OtherNet) (by rfl)))) pss_nil))), pure_must_be_kind h⟩


def pr_places_of (K : PySem.W.Frag) (v0 : V) (H : Hp) (Q : VK) (_ : XK) : Prop := ∃ N : Net, Dp K H v0 N.d ∧ Q (.int N.places) H
def t_places_of (K : PySem.W.Frag) : TS :=
  (tSeq (tIfS (tTest (tOp rEq (tOp (rIxT K) (tVar 0) (tC (.int 0))) (tC (.str (Str.ofString "tree"))))) (tRet (tOp xAdd (tCB (rLen K) (tCons (tOp (rIxT K) (tVar 0) (tC (.int 1))) tNil)) (tC (.int 1)))) tNext)
    (tRet (tOp (rIxT K) (tVar 0) (tC (.int 1)))))
theorem pure_places_of {v0 : V} {H : Hp} {Q : VK} {E : XK} (h : pr_places_of K v0 H Q E) : t_places_of K ⟨fun _ H' => Q .non H', Q, fun _ _ => False, fun _ _ => False⟩ [some v0] H := by
  obtain ⟨N, hd, q⟩ := h
  obtain ⟨a, y, rfl, hs, hy⟩ := dp_net hd
  unfold t_places_of
  wtm_at "s"
  refine k_eqS ?_
  cases N with
  | line n =>
    obtain rfl := dp_int hy
    rw [show Net.kind (.line n) = Str.ofString "line" from rfl, s_lt]
    wtm_at "s"
    exact q
  | ring n =>
    obtain rfl := dp_int hy
    rw [show Net.kind (.ring n) = Str.ofString "ring" from rfl, s_rt]
    wtm_at "s"
    exact q
  | tree ps =>
    obtain ⟨b, rfl, hb⟩ := dp_ints hy
    rw [show Net.kind (.tree ps) = Str.ofString "tree" from rfl, s_same]
    wtm_at "s"
    exact q
abbrev sp_places_of (K : PySem.W.Frag) : Sp := fun vs H Q E => ∃ v0, vs = [v0] ∧ pr_places_of K v0 H Q E
theorem ok_places_of (T : Txt K mg A) : FnOk P w K mg base CX0 1 A.a_places_of A.d_places_of ["net"] (sp_places_of K) := by
  refine T.F_places_of.ok sc_places_of (fun vs H Q E h => by obtain ⟨v0, rfl, _⟩ := h; rfl) (fun cdv A0 outer s H vs Q E hr h => ?_)
  obtain ⟨v0, rfl, h⟩ := h
  exact ⟨t_places_of K, (pss_cons (ps_if (pt_cmpR op_eq (pe_ix ix_tup (pv 0) pe_int (fun _ _ => rfl)) pe_str (nomark _)) (pss_one (ps_ret (pe_op op_add (pe_callB q_len (by rfl) T.z_len (by decide +kernel) (pa_cons (pe_ix ix_tup (pv 0) pe_int (fun _ _ => rfl)) pa_nil)) pe_int))) pss_nil)
      (pss_one (ps_ret (pe_ix ix_tup (pv 0) pe_int (fun _ _ => rfl))))), pure_places_of h⟩
def pr_is_way (K : PySem.W.Frag) (v0 v1 : V) (H : Hp) (Q : VK) (_ : XK) : Prop := ∃ (N : Net) (a b : Int), Dp K H v0 N.d ∧ Dp K H v1 (dPair (a, b)) ∧ Q (.bl (decide (isWay N a b))) H
def t_is_way (K : PySem.W.Frag) : TS :=
  (tSeq (tAsg (tVar 1) (gTup K 2 (gCons (gName 2) (gCons (gName 3) gNil))))
    (tRet (tAndV (tOp rNe (tVar 2) (tVar 3)) (tAndV (tOp xGe (tCB rMin2 (tCons (tVar 2) (tCons (tVar 3) tNil))) (tC (.int 0))) (tOp xLt (tCB rMax2 (tCons (tVar 2) (tCons (tVar 3) tNil))) (tCall (sp_places_of K) [] E0 (tCons (tVar 0) tNil)))))))
theorem pure_is_way {v0 v1 : V} {H : Hp} {Q : VK} {E : XK} (h : pr_is_way K v0 v1 H Q E) : t_is_way K ⟨fun _ H' => Q .non H', Q, fun _ _ => False, fun _ _ => False⟩ [some v0, some v1, none, none] H := by
  obtain ⟨N, a, b, hd, hw, q⟩ := h
  obtain ⟨p, rfl, hp⟩ := dp_pair hw
  have kk : ∀ r : Bool, (r = true ↔ isWay N a b) → Q (.bl r) H := fun r hr => by
    have : r = decide (isWay N a b) := by
      by_cases c : isWay N a b
      · rw [decide_eq_true c]; exact hr.mpr c
      · rw [decide_eq_false c]
        cases r with
        | false => rfl
        | true => exact absurd (hr.mp rfl) c
    rw [this]; exact q
  unfold t_is_way
  wtm_at "s"
  refine k_itn (fun c1 => ?_) (fun c1 => ?_)
  · wtm_at "s"
    refine k_it (fun c2 => ?_) (fun c2 => ?_)
    · wtm_at "s"
      refine ⟨_, rfl, N, hd, ?_⟩
      wtm_at "s"
      refine kk _ ?_
      simp only [decide_eq_true_eq, isWay]
      constructor
      · intro z
        split at z <;> split at c2 <;> omega
      · intro z
        split <;> omega
    · wtm_at "s"
      refine kk _ (ff_iff fun z => c2 ?_)
      obtain ⟨z1, z2, z3, z4, z5⟩ := z
      split <;> omega
  · wtm_at "s"
    exact kk _ (ff_iff fun z => z.1 c1)
abbrev sp_is_way (K : PySem.W.Frag) : Sp := fun vs H Q E => ∃ v0 v1, vs = [v0, v1] ∧ pr_is_way K v0 v1 H Q E
theorem ok_is_way (T : Txt K mg A) : FnOk P w K mg base CX0 2 A.a_is_way A.d_is_way ["net", "way"] (sp_is_way K) := by
  refine T.F_is_way.ok sc_is_way (fun vs H Q E h => by obtain ⟨v0, v1, rfl, _⟩ := h; rfl) (fun cdv A0 outer s H vs Q E hr h => ?_)
  obtain ⟨v0, v1, rfl, h⟩ := h
  exact ⟨t_is_way K, (pss_cons (ps_asg (pv 1) (pg_tup (by rfl) (pgs_cons (pg_name (i := 2) sc_is_way.nd rfl (Or.inl rfl)) (pgs_cons (pg_name (i := 3) sc_is_way.nd rfl (Or.inl rfl)) pgs_nil))))
      (pss_one (ps_ret (pe_and (pe_cmpR op_ne (pv 2) (pv 3) (nomark _)) (pe_and (pe_cmpR op_ge (pe_callB (q_min2 (by rfl)) (by rfl) T.z_min (by decide +kernel) (pa_cons (pv 2) (pa_cons (pv 3) pa_nil))) pe_int (nomark _)) (pe_one (pe_cmpR op_lt (pe_callB (q_max2 (by rfl)) (by rfl) T.z_max (by decide +kernel) (pa_cons (pv 2) (pa_cons (pv 3) pa_nil))) (pe_call (ok_places_of T) (hr.mono (by decide)) (by rfl) T.g_places_of T.F_places_of.kp T.b_places_of .nil pass0 (pa_cons (pv 0) pa_nil)) (nomark _)))))))), pure_is_way h⟩
def pr_must_be_ways (K : PySem.W.Frag) (v0 v1 : V) (H : Hp) (Q : VK) (_ : XK) : Prop := ∃ (N : Net) (ws : List (Int × Int)), Dp K H v0 N.d ∧ Dp K H v1 (dPairs ws) ∧ ws.length ≤ 10000 ∧ (∀ w ∈ ws, isWay N w.1 w.2) ∧ Q .non H
def t_must_be_ways (K : PySem.W.Frag) : TS :=
  (tFor (iRng1 (tCons (tCB (rLen K) (tCons (tVar 1) tNil)) tNil)) (gName 2)
      (tIfS (tNot (tB (tCall (sp_is_way K) [] E0 (tCons (tVar 0) (tCons (tOp (rIxL K) (tVar 1) (tVar 2)) tNil))))) tNever tNext))
theorem pure_must_be_ways {v0 v1 : V} {H : Hp} {Q : VK} {E : XK} (h : pr_must_be_ways K v0 v1 H Q E) : t_must_be_ways K ⟨fun _ H' => Q .non H', Q, fun _ _ => False, fun _ _ => False⟩ [some v0, some v1, none] H := by
  obtain ⟨N, ws, hd, hw, hz, hok, q⟩ := h
  obtain ⟨b, xs, rfl, hb, hxs⟩ := dp_list hw
  have hl := dpa_len hxs
  rw [List.length_map] at hl
  unfold t_must_be_ways
  wtm_at "s"
  rw [hl]
  refine forR (fun i σ' H' => H' = H ∧ ∃ k, σ' = [some v0, some (.ref b), k]) ⟨rfl, none, rfl⟩ ?_ (fun σ' H' ⟨e, _⟩ => e ▸ q)
  rintro i σ' H' hi ⟨rfl, k, rfl⟩
  have hi' : i < xs.length := by omega
  obtain ⟨x, hx⟩ : ∃ x, xs[i]? = some x := ⟨xs[i], List.getElem?_eq_getElem hi'⟩
  obtain ⟨d, hd1, hd2⟩ := dpa_get hxs hx
  rw [List.getElem?_map] at hd1
  obtain ⟨w, hw1, rfl⟩ := Option.map_eq_some_iff.mp hd1
  have wok := hok w (List.mem_of_getElem? hw1)
  wtm_at "s"
  refine k_ixL hb (by rw [Int.zero_add]; exact atI_nat hx) ?_
  wtm_at "s"
  refine ⟨_, _, rfl, N, w.1, w.2, hd, hd2, ?_⟩
  rw [decide_eq_true wok]
  wtm_at "s"
  exact ⟨rfl, _, rfl⟩
abbrev sp_must_be_ways (K : PySem.W.Frag) : Sp := fun vs H Q E => ∃ v0 v1, vs = [v0, v1] ∧ pr_must_be_ways K v0 v1 H Q E
theorem ok_must_be_ways (T : Txt K mg A) : FnOk P w K mg base CX0 3 A.a_must_be_ways A.d_must_be_ways ["net", "ways"] (sp_must_be_ways K) := by
  refine T.F_must_be_ways.ok sc_must_be_ways (fun vs H Q E h => by obtain ⟨v0, v1, rfl, _⟩ := h; rfl) (fun cdv A0 outer s H vs Q E hr h => ?_)
  obtain ⟨v0, v1, rfl, h⟩ := h
  exact ⟨t_must_be_ways K, (pss_one (ps_for PassesOwn.never rfl (pi_range1 (by rfl) T.z_range (pa_cons (pe_callB q_len (by rfl) T.z_len (by decide +kernel) (pa_cons (pv 1) pa_nil)) pa_nil)) (pg_name (i := 2) sc_must_be_ways.nd rfl (Or.inl rfl))
      (pss_one (ps_if (pt_not (pt_val (pe_call (ok_is_way T) (hr.mono (by decide)) (by rfl) T.g_is_way T.F_is_way.kp T.b_is_way .nil pass0 (pa_cons (pv 0) (pa_cons (pe_ix ix_list (pv 1) (pv 2) (fun _ _ => rfl)) pa_nil))))) (pss_one ps_never) pss_nil)))), pure_must_be_ways h⟩
def pr_look_ways (K : PySem.W.Frag) (v0 v1 : V) (H : Hp) (Q : VK) (_ : XK) : Prop := ∃ (N : Net) (ws : List (Int × Int)), Dp K H v0 N.d ∧ N.ok ∧ Dp K H v1 (dPairs ws) ∧ ws.length ≤ 10000 ∧ (∀ w ∈ ws, isWay N w.1 w.2) ∧ Q .non H
def t_look_ways (K : PySem.W.Frag) : TS :=
  (tSeq (tDrop (tCall (sp_look_net K) [] E0 (tCons (tVar 0) tNil)))
    (tDrop (tCall (sp_must_be_ways K) [] E0 (tCons (tVar 0) (tCons (tVar 1) tNil)))))
theorem pure_look_ways {v0 v1 : V} {H : Hp} {Q : VK} {E : XK} (h : pr_look_ways K v0 v1 H Q E) : t_look_ways K ⟨fun _ H' => Q .non H', Q, fun _ _ => False, fun _ _ => False⟩ [some v0, some v1] H := by
  obtain ⟨N, ws, hd, ok, hw, hz, hok, q⟩ := h
  unfold t_look_ways
  wtm_at "s"
  refine ⟨_, rfl, N, hd, ok, ?_⟩
  wtm_at "s"
  exact ⟨_, _, rfl, N, ws, hd, hw, hz, hok, q⟩
abbrev sp_look_ways (K : PySem.W.Frag) : Sp := fun vs H Q E => ∃ v0 v1, vs = [v0, v1] ∧ pr_look_ways K v0 v1 H Q E
theorem ok_look_ways (T : Txt K mg A) : FnOk P w K mg base CX0 4 A.a_look_ways A.d_look_ways ["net", "ways"] (sp_look_ways K) := by
  refine T.F_look_ways.ok sc_look_ways (fun vs H Q E h => by obtain ⟨v0, v1, rfl, _⟩ := h; rfl) (fun cdv A0 outer s H vs Q E hr h => ?_)
  obtain ⟨v0, v1, rfl, h⟩ := h
  exact ⟨t_look_ways K, (pss_cons (ps_expr (pe_call (ok_look_net T) (hr.mono (by decide)) (by rfl) T.g_look_net T.F_look_net.kp T.b_look_net .nil pass0 (pa_cons (pv 0) pa_nil)))
      (pss_one (ps_expr (pe_call (ok_must_be_ways T) (hr.mono (by decide)) (by rfl) T.g_must_be_ways T.F_must_be_ways.kp T.b_must_be_ways .nil pass0 (pa_cons (pv 0) (pa_cons (pv 1) pa_nil)))))), pure_look_ways h⟩


theorem below_lt {ps : List Int} {k : Nat} : ∀ x, x < k → below ps k x = false
  | 0, h => by unfold below; exact decide_eq_false (by omega)
  | x + 1, h => by
    unfold below
    rw [decide_eq_false (show ¬ k = x + 1 by omega), decide_eq_false (show ¬ k < x + 1 by omega)]; rfl
theorem below_self {ps : List Int} (k : Nat) : below ps k k = true := by
  cases k with
  | zero => unfold below; rfl
  | succ x => unfold below; rw [decide_eq_true rfl]; rfl
theorem below_step {ps : List Int} (h : TreeOk ps) {k x : Nat} (hx : x < ps.length) (hk : k ≠ x + 1) : below ps k (x + 1) = below ps k (ps.getD x 0).toNat := by
  have hp := h.2.2 x hx
  have hlt : (ps.getD x 0).toNat < x + 1 := by omega
  rw [below, decide_eq_false hk, Bool.false_or, dif_pos hlt]
  by_cases c : k < x + 1
  · rw [decide_eq_true c, Bool.true_and]
  · rw [decide_eq_false c, Bool.false_and, below_lt _ (by omega)]
theorem ring_step {n a b t : Int} (a0 : 0 ≤ a) (a1 : a < n) (b0 : 0 ≤ b) (b1 : b < n) (ne : a ≠ b) (t0 : 0 ≤ t) (t1 : t < n) :
    (up n a t < up n a b ↔ t = a ∨ up n ((a + 1) % n) t < up n ((a + 1) % n) b) ∧ (t = a → ¬ up n ((a + 1) % n) t < up n ((a + 1) % n) b) := by
  have e : (a + 1) % n = if a + 1 = n then 0 else a + 1 := by
    split
    · rename_i h; rw [h]; exact Int.emod_self
    · exact Int.emod_eq_of_lt (by omega) (by omega)
  rw [e]
  unfold up
  constructor
  · constructor
    · intro h; repeat' split at h
      all_goals repeat' split
      all_goals omega
    · intro h; repeat' split at h
      all_goals repeat' split
      all_goals omega
  · intro h; subst h
    repeat' split
    all_goals omega
theorem ring_far {n a b : Int} (a0 : 0 ≤ a) (a1 : a < n) (b0 : 0 ≤ b) (b1 : b < n) (ne : a ≠ b) : up n ((a + 1) % n) b = up n a b - 1 ∧ 0 ≤ (a + 1) % n ∧ (a + 1) % n < n ∧ 0 < up n a b ∧ up n a b < n := by
  have e : (a + 1) % n = if a + 1 = n then 0 else a + 1 := by
    split
    · rename_i h; rw [h]; exact Int.emod_self
    · exact Int.emod_eq_of_lt (by omega) (by omega)
  rw [e]
  unfold up
  refine ⟨?_, ?_, ?_, ?_, ?_⟩ <;> repeat' split
  all_goals omega
theorem up_self (n a : Int) : up n a a = 0 := by unfold up; split <;> omega
theorem up_nonneg {n a b : Int} (a0 : 0 ≤ a) (a1 : a < n) (b0 : 0 ≤ b) (b1 : b < n) : 0 ≤ up n a b := by unfold up; split <;> omega
/-- the greater end climbs -/
theorem tree_step {ps : List Int} (h : TreeOk ps) {x y t : Int} (x0 : 0 ≤ x) (x1 : x < ps.length + 1) (y0 : 0 ≤ y) (yx : y < x) (t0 : 0 ≤ t) :
    (below ps (t.toNat + 1) x.toNat ≠ below ps (t.toNat + 1) y.toNat ↔ t = x - 1 ∨ below ps (t.toNat + 1) (ps.getD (x - 1).toNat 0).toNat ≠ below ps (t.toNat + 1) y.toNat) ∧
    (t = x - 1 → ¬ below ps (t.toNat + 1) (ps.getD (x - 1).toNat 0).toNat ≠ below ps (t.toNat + 1) y.toNat) := by
  have hp := h.2.2 (x - 1).toNat (by omega)
  by_cases c : t = x - 1
  · subst c
    have e1 : (x - 1).toNat + 1 = x.toNat := by omega
    rw [e1, below_self, below_lt y.toNat (by omega), below_lt (ps.getD (x - 1).toNat 0).toNat (by omega)]
    simp
  · have e1 : x.toNat = (x - 1).toNat + 1 := by omega
    have := below_step h (k := t.toNat + 1) (x := (x - 1).toNat) (by omega) (by omega)
    rw [e1, this]
    simp [c]
theorem srt_of {fs ns : List Int} (nd : fs.Nodup) (pm : ns.Perm fs) (srt : ns.Pairwise (· ≤ ·)) : ns.Pairwise (· < ·) := by
  have := srt.and (pm.nodup_iff.mpr nd)
  exact this.imp fun ⟨a, b⟩ => by omega
def pr_ties_on (K : PySem.W.Frag) (v0 v1 : V) (H : Hp) (Q : VK) (_ : XK) : Prop := ∃ (N : Net) (a b : Int), Dp K H v0 N.d ∧ Dp K H v1 (dPair (a, b)) ∧ N.ok ∧ isWay N a b ∧ ∀ p ns H', H p = none → Same H H' → H' p = some (.lst (List.map V.int ns)) → TiesOf N a b ns → Q (.ref p) H'
def t_ties_on (K : PySem.W.Frag) : TS :=
  (tSeq (tAsg (tVar 1) (gTup K 2 (gCons (gName 2) (gCons (gName 3) gNil))))
    (tSeq (tAsg (tLst tNil) (gName 4))
    (tSeq (tIfS (tTest (tOp rEq (tOp (rIxT K) (tVar 0) (tC (.int 0))) (tC (.str (Str.ofString "line"))))) (tRet (tLstRg (tRg2 (tCB rMin2 (tCons (tVar 2) (tCons (tVar 3) tNil))) (tCB rMax2 (tCons (tVar 2) (tCons (tVar 3) tNil)))))) tNext)
    (tSeq (tWhile (tTest (tOp rNe (tVar 2) (tVar 3)))
      (tIfS (tTest (tOp rEq (tOp (rIxT K) (tVar 0) (tC (.int 0))) (tC (.str (Str.ofString "ring"))))) (tSeq (tDrop (tBM K "list" rAppend (tVar 4) (tCons (tVar 2) tNil)))
    (tAsg (tOp xMod (tOp xAdd (tVar 2) (tC (.int 1))) (tOp (rIxT K) (tVar 0) (tC (.int 1)))) (gName 2))) (tIfS (tTest (tOp xGt (tVar 2) (tVar 3))) (tSeq (tDrop (tBM K "list" rAppend (tVar 4) (tCons (tOp xSub (tVar 2) (tC (.int 1))) tNil)))
    (tAsg (tOp (rIxL K) (tOp (rIxT K) (tVar 0) (tC (.int 1))) (tOp xSub (tVar 2) (tC (.int 1)))) (gName 2))) (tSeq (tDrop (tBM K "list" rAppend (tVar 4) (tCons (tOp xSub (tVar 3) (tC (.int 1))) tNil)))
    (tAsg (tOp (rIxL K) (tOp (rIxT K) (tVar 0) (tC (.int 1))) (tOp xSub (tVar 3) (tC (.int 1)))) (gName 3))))))
    (tRet (tCB (rSortedI K) (tCons (tVar 4) tNil)))))))
def Net.far2 (N : Net) (a b a' b' : Int) (fs : List Int) (m : Nat) : Prop := match N with
  | .line _ => True
  | .ring n => (m : Int) = up n a' b' ∧ (fs.length : Int) + m = up n a b
  | .tree _ => (m : Int) = a' + b' ∧ (fs.length : Int) + m ≤ a + b
theorem pure_ties_on {v0 v1 : V} {H : Hp} {Q : VK} {E : XK} (h : pr_ties_on K v0 v1 H Q E) : t_ties_on K ⟨fun _ H' => Q .non H', Q, fun _ _ => False, fun _ _ => False⟩ [some v0, some v1, none, none, none] H := by
  obtain ⟨N, a, b, hd, hw, ok, ⟨w1, w2, w3, w4, w5⟩, q⟩ := h
  obtain ⟨c, y, rfl, hs, hy⟩ := dp_net hd
  obtain ⟨p, rfl, hp⟩ := dp_pair hw
  unfold t_ties_on
  wtm_at "s"
  refine ⟨sz (by simp), fun fo nfo => ?_⟩
  have s1 := same_new (o := .lst []) nfo
  have e1 : upd H fo (.lst []) fo = some (.lst (List.map V.int [])) := upd_same
  generalize upd H fo (.lst []) = H1 at s1 e1 ⊢
  wtm_at "s"
  refine k_eqS ?_
  have loop : ∀ (nx : L2.St → Hp → Prop) (bk ct : L2.St → Hp → Prop), (match N with | .line _ => False | _ => True) → ∀ (W : Nat → L2.St → Hp → Prop), True := fun _ _ _ _ _ => trivial
  cases N with
  | line n =>
    obtain rfl := dp_int hy
    rw [show Net.kind (.line n) = Str.ofString "line" from rfl, s_same]
    obtain ⟨o1, o2⟩ := ok
    have w4' : a < n := w4
    have w5' : b < n := w5
    wtm_at "s"
    have hmn : (if b < a then b else a) = min a b := by split <;> omega
    have hmx : (if b > a then b else a) = max a b := by split <;> omega
    rw [hmn, hmx]
    refine ⟨.of_le (by omega) (by omega) (by omega) (by omega), fun l nl => ?_⟩
    refine q l ((List.range (max a b - min a b).toNat).map fun i => min a b + (i : Nat)) _ (s1.free nl) (s1.trans (same_new nl)) (by rw [upd_same, rg_ints]) ⟨?_, fun t => ?_, ?_⟩
    · exact List.pairwise_map.mpr (List.pairwise_lt_range.imp fun h => by omega)
    · show _ ↔ min a b ≤ t ∧ t < max a b
      rw [List.mem_map]
      constructor
      · rintro ⟨i, hi, rfl⟩
        have := List.mem_range.mp hi
        omega
      · intro h
        exact ⟨(t - min a b).toNat, List.mem_range.mpr (by omega), by omega⟩
    · show ((List.map _ _).length : Int) = max a b - min a b
      rw [List.length_map, List.length_range]
      omega
  | ring n =>
    obtain rfl := dp_int hy
    rw [show Net.kind (.ring n) = Str.ofString "ring" from rfl] at hs ⊢
    rw [s_rl]
    obtain ⟨o1, o2⟩ := ok
    have w4' : a < n := w4
    have w5' : b < n := w5
    have u0 := up_nonneg w2 w4' w3 w5'
    wtm_at "s"
    refine ⟨fun m σ' H' => ∃ a' fs, σ' = [some (.ref c), some (.ref p), some (.int a'), some (.int b), some (.ref fo)] ∧ Same H H' ∧ H' fo = some (.lst (List.map V.int fs)) ∧ 0 ≤ a' ∧ a' < n ∧ fs.Nodup ∧ (m : Int) = up n a' b ∧ (fs.length : Int) + m = up n a b ∧
      (∀ t, OnTie (.ring n) a b t ↔ t ∈ fs ∨ OnTie (.ring n) a' b t) ∧ (∀ t, t ∈ fs → ¬ OnTie (.ring n) a' b t),
      ⟨(up n a b).toNat, a, [], rfl, s1, e1, w2, w4', List.nodup_nil, by omega, by simp; omega, fun t => by simp, fun t z => by cases z⟩, ?_⟩
    rintro m σ' H' ⟨a', fs, rfl, sm, hf, a0, a1, nd, hm, hfl, ht, hn⟩
    wtm_at "s"
    refine k_itn (fun c1 => ?_) (fun c1 => ?_)
    · obtain ⟨f1, f2, f3, f4, f5⟩ := ring_far a0 a1 w3 w5' c1
      have uab : up n a b < n := by unfold up; split <;> omega
      refine ⟨fun σ' H' => ∃ fs', σ' = [some (.ref c), some (.ref p), some (.int ((a' + 1) % n)), some (.int b), some (.ref fo)] ∧ Same H H' ∧ H' fo = some (.lst (List.map V.int fs')) ∧ fs'.Nodup ∧ (fs'.length : Int) + (m - 1 : Nat) = up n a b ∧
        (∀ t, OnTie (.ring n) a b t ↔ t ∈ fs' ∨ OnTie (.ring n) ((a' + 1) % n) b t) ∧ (∀ t, t ∈ fs' → ¬ OnTie (.ring n) ((a' + 1) % n) b t), fun σ' H' ⟨fs', e, g1, g2, g3, g4, g5, g6⟩ => ⟨m - 1, by omega, _, fs', e, g1, g2, f2, f3, g3, by omega, g4, g5, g6⟩, ?_⟩
      have hs' : SqT K H' c [.str (Str.ofString "ring"), .int n] := same_seqT sm hs
      wtm_at "s"
      refine k_eqS ?_
      rw [s_same]
      wtm_at "s"
      refine k_tyL (sl hf) ?_
      wtm_at "s"
      refine k_append hf (by rw [List.length_map]; omega) ?_
      have hs2 : SqT K (upd H' fo (.lst (List.map V.int fs ++ [.int a']))) c [.str (Str.ofString "ring"), .int n] := same_seqT (same_mut sm nfo) hs
      wtm_at "s"
      refine ⟨fs ++ [a'], rfl, same_mut sm nfo, by rw [upd_same, List.map_append]; rfl, ?_, ?_, fun t => ?_, fun t z => ?_⟩
      · refine List.nodup_append.mpr ⟨nd, by simp, fun x hx y hy e => ?_⟩
        have : y = a' := by simpa using hy
        subst this; subst e
        exact hn x hx ⟨a0, a1, by rw [up_self]; exact f4⟩
      · rw [List.length_append]; show ((fs.length + 1 : Nat) : Int) + _ = _; omega
      · rw [ht t, List.mem_append]
        show t ∈ fs ∨ (0 ≤ t ∧ t < n ∧ up n a' t < up n a' b) ↔ (t ∈ fs ∨ t ∈ [a']) ∨ (0 ≤ t ∧ t < n ∧ _)
        by_cases r : 0 ≤ t ∧ t < n
        · have st := (ring_step a0 a1 w3 w5' c1 r.1 r.2).1
          simp only [r.1, r.2, true_and, List.mem_singleton, st, or_assoc]
        · have : t ≠ a' := fun e => r (by omega)
          constructor
          · rintro (h | h)
            · exact .inl (.inl h)
            · exact absurd ⟨h.1, h.2.1⟩ r
          · rintro ((h | h) | h)
            · exact .inl h
            · exact absurd (by simpa using h) this
            · exact absurd ⟨h.1, h.2.1⟩ r
      · rcases List.mem_append.mp z with z | z
        · intro o
          obtain ⟨o1, o2, o3⟩ := o
          exact hn t z ⟨o1, o2, (ring_step a0 a1 w3 w5' c1 o1 o2).1.mpr (.inr o3)⟩
        · have e : t = a' := by simpa using z
          intro o
          obtain ⟨o1, o2, o3⟩ := o
          exact (ring_step a0 a1 w3 w5' c1 o1 o2).2 e o3
    · subst c1
      rw [up_self] at hm
      wtm_at "s"
      refine k_sortedI (sl hf) (fun ns l pm srt nl => ?_)
      refine q l ns _ (sm.free nl) (sm.trans (same_new nl)) upd_same ⟨srt_of nd pm srt, fun t => ?_, ?_⟩
      · rw [pm.mem_iff, ht t]
        constructor
        · exact .inl
        · rintro (h | h)
          · exact h
          · obtain ⟨_, _, h⟩ := h
            rw [up_self] at h
            have := up_nonneg a0 a1 (b := t) (by assumption) (by assumption)
            omega
      · show (ns.length : Int) = up n a a'
        rw [pm.length_eq]; omega
  | tree ps =>
    obtain ⟨d, rfl, hdl⟩ := dp_ints hy
    rw [show Net.kind (.tree ps) = Str.ofString "tree" from rfl] at hs ⊢
    rw [s_tl]
    have w4' : a < ps.length + 1 := w4
    have w5' : b < ps.length + 1 := w5
    have l60 := ok.2.1
    wtm_at "s"
    refine ⟨fun m σ' H' => ∃ a' b' fs, σ' = [some (.ref c), some (.ref p), some (.int a'), some (.int b'), some (.ref fo)] ∧ Same H H' ∧ H' fo = some (.lst (List.map V.int fs)) ∧ 0 ≤ a' ∧ a' < ps.length + 1 ∧ 0 ≤ b' ∧ b' < ps.length + 1 ∧ fs.Nodup ∧ (m : Int) = a' + b' ∧ (fs.length : Int) + m ≤ a + b ∧
      (∀ t, OnTie (.tree ps) a b t ↔ t ∈ fs ∨ OnTie (.tree ps) a' b' t) ∧ (∀ t, t ∈ fs → ¬ OnTie (.tree ps) a' b' t),
      ⟨(a + b).toNat, a, b, [], rfl, s1, e1, w2, w4', w3, w5', List.nodup_nil, by omega, by simp; omega, fun t => by simp, fun t z => by cases z⟩, ?_⟩
    rintro m σ' H' ⟨a', b', fs, rfl, sm, hf, a0, a1, b0, b1, nd, hm, hfl, ht, hn⟩
    wtm_at "s"
    refine k_itn (fun c1 => ?_) (fun c1 => ?_)
    · refine ⟨fun σ' H' => ∃ m' a2 b2 fs', m' < m ∧ σ' = [some (.ref c), some (.ref p), some (.int a2), some (.int b2), some (.ref fo)] ∧ Same H H' ∧ H' fo = some (.lst (List.map V.int fs')) ∧ 0 ≤ a2 ∧ a2 < ps.length + 1 ∧ 0 ≤ b2 ∧ b2 < ps.length + 1 ∧ fs'.Nodup ∧ (m' : Int) = a2 + b2 ∧ (fs'.length : Int) + m' ≤ a + b ∧
        (∀ t, OnTie (.tree ps) a b t ↔ t ∈ fs' ∨ OnTie (.tree ps) a2 b2 t) ∧ (∀ t, t ∈ fs' → ¬ OnTie (.tree ps) a2 b2 t), fun σ' H' ⟨m', a2, b2, fs', l, r⟩ => ⟨m', l, a2, b2, fs', r⟩, ?_⟩
      have hs' : SqT K H' c [.str (Str.ofString "tree"), .ref d] := same_seqT sm hs
      wtm_at "s"
      refine k_eqS ?_
      rw [s_tr]
      wtm_at "s"
      refine k_it (fun c2 => ?_) (fun c2 => ?_)
      · have hpa := ok.2.2 (a' - 1).toNat (by omega)
        wtm_at "s"
        refine k_tyL (sl hf) ?_
        wtm_at "s"
        refine k_append hf (by rw [List.length_map]; omega) ?_
        have sm2 : Same H (upd H' fo (.lst (List.map V.int fs ++ [.int (a' - 1)]))) := same_mut sm nfo
        have hs2 : SqT K (upd H' fo (.lst (List.map V.int fs ++ [.int (a' - 1)]))) c [.str (Str.ofString "tree"), .ref d] := same_seqT sm2 hs
        wtm_at "s"
        refine k_ixI (sm2.seq hdl) (by omega) (by omega) ?_
        wtm_at "s"
        refine ⟨(ps.getD (a' - 1).toNat 0 + b').toNat, _, _, fs ++ [a' - 1], by omega, rfl, sm2, by rw [upd_same, List.map_append]; rfl, by omega, by omega, b0, b1, ?_, by omega, ?_, fun t => ?_, fun t z => ?_⟩
        · refine List.nodup_append.mpr ⟨nd, by simp, fun x hx y hy e => ?_⟩
          have : y = a' - 1 := by simpa using hy
          subst this; subst e
          exact hn _ hx ⟨by omega, by omega, (tree_step ok a0 a1 b0 c2 (by omega)).1.mpr (.inl rfl)⟩
        · rw [List.length_append]; show ((fs.length + 1 : Nat) : Int) + _ ≤ _; omega
        · rw [ht t, List.mem_append]
          show t ∈ fs ∨ (0 ≤ t ∧ t < ps.length ∧ _) ↔ (t ∈ fs ∨ t ∈ [a' - 1]) ∨ (0 ≤ t ∧ t < ps.length ∧ _)
          by_cases r : 0 ≤ t ∧ t < ps.length
          · have st := (tree_step ok a0 a1 b0 c2 r.1).1
            simp only [r.1, r.2, true_and, List.mem_singleton, st, or_assoc]
          · have : t ≠ a' - 1 := fun e => r (by omega)
            constructor
            · rintro (h | h)
              · exact .inl (.inl h)
              · exact absurd ⟨h.1, h.2.1⟩ r
            · rintro ((h | h) | h)
              · exact .inl h
              · exact absurd (by simpa using h) this
              · exact absurd ⟨h.1, h.2.1⟩ r
        · rcases List.mem_append.mp z with z | z
          · rintro ⟨o1, o2, o3⟩
            exact hn t z ⟨o1, o2, (tree_step ok a0 a1 b0 c2 o1).1.mpr (.inr o3)⟩
          · have e : t = a' - 1 := by simpa using z
            rintro ⟨o1, o2, o3⟩
            exact (tree_step ok a0 a1 b0 c2 o1).2 e o3
      · have c3 : a' < b' := by omega
        have hpb := ok.2.2 (b' - 1).toNat (by omega)
        have sym : ∀ u v t, OnTie (.tree ps) u v t ↔ OnTie (.tree ps) v u t := fun u v t => by
          show (_ ∧ _ ∧ _ ≠ _) ↔ (_ ∧ _ ∧ _ ≠ _)
          constructor
          · rintro ⟨x1, x2, x3⟩; exact ⟨x1, x2, x3.symm⟩
          · rintro ⟨x1, x2, x3⟩; exact ⟨x1, x2, x3.symm⟩
        wtm_at "s"
        refine k_tyL (sl hf) ?_
        wtm_at "s"
        refine k_append hf (by rw [List.length_map]; omega) ?_
        have sm2 : Same H (upd H' fo (.lst (List.map V.int fs ++ [.int (b' - 1)]))) := same_mut sm nfo
        have hs2 : SqT K (upd H' fo (.lst (List.map V.int fs ++ [.int (b' - 1)]))) c [.str (Str.ofString "tree"), .ref d] := same_seqT sm2 hs
        wtm_at "s"
        refine k_ixI (sm2.seq hdl) (by omega) (by omega) ?_
        wtm_at "s"
        refine ⟨(a' + ps.getD (b' - 1).toNat 0).toNat, _, _, fs ++ [b' - 1], by omega, rfl, sm2, by rw [upd_same, List.map_append]; rfl, a0, a1, by omega, by omega, ?_, by omega, ?_, fun t => ?_, fun t z => ?_⟩
        · refine List.nodup_append.mpr ⟨nd, by simp, fun x hx y hy e => ?_⟩
          have : y = b' - 1 := by simpa using hy
          subst this; subst e
          exact hn _ hx ((sym _ _ _).mpr ⟨by omega, by omega, (tree_step ok b0 b1 a0 c3 (by omega)).1.mpr (.inl rfl)⟩)
        · rw [List.length_append]; show ((fs.length + 1 : Nat) : Int) + _ ≤ _; omega
        · rw [ht t, List.mem_append, sym a' b', sym a' (ps.getD (b' - 1).toNat 0)]
          show t ∈ fs ∨ (0 ≤ t ∧ t < ps.length ∧ _) ↔ (t ∈ fs ∨ t ∈ [b' - 1]) ∨ (0 ≤ t ∧ t < ps.length ∧ _)
          by_cases r : 0 ≤ t ∧ t < ps.length
          · have st := (tree_step ok b0 b1 a0 c3 r.1).1
            simp only [r.1, r.2, true_and, List.mem_singleton, st, or_assoc]
          · have : t ≠ b' - 1 := fun e => r (by omega)
            constructor
            · rintro (h | h)
              · exact .inl (.inl h)
              · exact absurd ⟨h.1, h.2.1⟩ r
            · rintro ((h | h) | h)
              · exact .inl h
              · exact absurd (by simpa using h) this
              · exact absurd ⟨h.1, h.2.1⟩ r
        · rw [sym]
          rcases List.mem_append.mp z with z | z
          · rintro ⟨o1, o2, o3⟩
            exact hn t z ((sym _ _ _).mpr ⟨o1, o2, (tree_step ok b0 b1 a0 c3 o1).1.mpr (.inr o3)⟩)
          · have e : t = b' - 1 := by simpa using z
            rintro ⟨o1, o2, o3⟩
            exact (tree_step ok b0 b1 a0 c3 o1).2 e o3
    · subst c1
      wtm_at "s"
      refine k_sortedI (sl hf) (fun ns l pm srt nl => ?_)
      refine q l ns _ (sm.free nl) (sm.trans (same_new nl)) upd_same ⟨srt_of nd pm srt, fun t => ?_, ?_⟩
      · rw [pm.mem_iff, ht t]
        constructor
        · exact .inl
        · rintro (h | h)
          · exact h
          · exact absurd rfl h.2.2
      · show ns.length < 120
        rw [pm.length_eq]; omega
abbrev sp_ties_on (K : PySem.W.Frag) : Sp := fun vs H Q E => ∃ v0 v1, vs = [v0, v1] ∧ pr_ties_on K v0 v1 H Q E
theorem ok_ties_on (T : Txt K mg A) : FnOk P w K mg base CX0 1 A.a_ties_on A.d_ties_on ["net", "way"] (sp_ties_on K) := by
  refine T.F_ties_on.ok sc_ties_on (fun vs H Q E h => by obtain ⟨v0, v1, rfl, _⟩ := h; rfl) (fun cdv A0 outer s H vs Q E hr h => ?_)
  obtain ⟨v0, v1, rfl, h⟩ := h
  exact ⟨t_ties_on K, (pss_cons (ps_asg (pv 1) (pg_tup (by rfl) (pgs_cons (pg_name (i := 2) sc_ties_on.nd rfl (Or.inl rfl)) (pgs_cons (pg_name (i := 3) sc_ties_on.nd rfl (Or.inl rfl)) pgs_nil))))
      (pss_cons (ps_set (i := 4) sc_ties_on.nd rfl (Or.inl rfl) (pe_lst pa_nil))
      (pss_cons (ps_if (pt_cmpR op_eq (pe_ix ix_tup (pv 0) pe_int (fun _ _ => rfl)) pe_str (nomark _)) (pss_one (ps_ret (pe_listRg (by rfl) (by rfl) T.z_list (prg_2 (by rfl) T.z_range (pe_callB (q_min2 (by rfl)) (by rfl) T.z_min (by decide +kernel) (pa_cons (pv 2) (pa_cons (pv 3) pa_nil))) (pe_callB (q_max2 (by rfl)) (by rfl) T.z_max (by decide +kernel) (pa_cons (pv 2) (pa_cons (pv 3) pa_nil))))))) pss_nil)
      (pss_cons (ps_while PassesOwn.never (pt_cmpR op_ne (pv 2) (pv 3) (nomark _))
      (pss_one (ps_if (pt_cmpR op_eq (pe_ix ix_tup (pv 0) pe_int (fun _ _ => rfl)) pe_str (nomark _)) (pss_cons (ps_expr (pe_bm PySem.F.plainAttrs_list PySem.F.slot_list_append PySem.F.type_list_append mt_append (pv 4) (pa_cons (pv 2) pa_nil)))
      (pss_one (ps_set (i := 2) sc_ties_on.nd rfl (Or.inl rfl) (pe_op op_mod (pe_op op_add (pv 2) pe_int) (pe_ix ix_tup (pv 0) pe_int (fun _ _ => rfl)))))) (pss_one (ps_if (pt_cmpR op_gt (pv 2) (pv 3) (nomark _)) (pss_cons (ps_expr (pe_bm PySem.F.plainAttrs_list PySem.F.slot_list_append PySem.F.type_list_append mt_append (pv 4) (pa_cons (pe_op op_sub (pv 2) pe_int) pa_nil)))
      (pss_one (ps_set (i := 2) sc_ties_on.nd rfl (Or.inl rfl) (pe_ix ix_list (pe_ix ix_tup (pv 0) pe_int (fun _ _ => rfl)) (pe_op op_sub (pv 2) pe_int) (fun _ _ => rfl))))) (pss_cons (ps_expr (pe_bm PySem.F.plainAttrs_list PySem.F.slot_list_append PySem.F.type_list_append mt_append (pv 4) (pa_cons (pe_op op_sub (pv 3) pe_int) pa_nil)))
      (pss_one (ps_set (i := 3) sc_ties_on.nd rfl (Or.inl rfl) (pe_ix ix_list (pe_ix ix_tup (pv 0) pe_int (fun _ _ => rfl)) (pe_op op_sub (pv 3) pe_int) (fun _ _ => rfl))))))))))
      (pss_one (ps_ret (pe_callB cr_sortedI (by rfl) T.z_sorted (by decide +kernel) (pa_cons (pv 4) pa_nil)))))))), pure_ties_on h⟩
/-- the numbers below n that P takes -/
def keepI (n : Nat) (P : Nat → Bool) : List Int := ((List.range n).filter P).map fun (i : Nat) => (i : Int)
theorem keepI_fm (n : Nat) (P : Nat → Bool) : (List.range n).filterMap (fun i => if P i = true then some (V.int (0 + (i : Nat))) else none) = List.map V.int (keepI n P) := by
  unfold keepI
  rw [List.map_map]
  induction (List.range n) with
  | nil => rfl
  | cons x r ih =>
    by_cases c : P x = true
    · rw [List.filterMap_cons, if_pos c, List.filter_cons, if_pos c]
      simp only [List.map_cons]
      rw [ih]
      simp
    · rw [List.filterMap_cons, if_neg c, List.filter_cons, if_neg c]
      exact ih
theorem keepI_srt (n : Nat) (P : Nat → Bool) : (keepI n P).Pairwise (· < ·) := by
  unfold keepI
  exact List.pairwise_map.mpr ((List.pairwise_lt_range.filter P).imp fun h => by omega)
theorem keepI_mem {n : Nat} {P : Nat → Bool} {t : Int} : t ∈ keepI n P ↔ 0 ≤ t ∧ t < n ∧ P t.toNat = true := by
  unfold keepI
  rw [List.mem_map]
  constructor
  · rintro ⟨i, hi, rfl⟩
    obtain ⟨h1, h2⟩ := List.mem_filter.mp hi
    have := List.mem_range.mp h1
    exact ⟨by omega, by omega, by rw [Int.toNat_natCast]; exact h2⟩
  · rintro ⟨h0, h1, h2⟩
    exact ⟨t.toNat, List.mem_filter.mpr ⟨List.mem_range.mpr (by omega), h2⟩, by omega⟩


theorem ok_init_NoWay (T : Txt K mg A) : FnOk P w K mg base CX0 1 A.i_NoWay A.di_NoWay ["self", "at"] (spInit A.c_NoWay (Str.ofString "at")) := by
  refine T.Fi_NoWay.ok sc_init_NoWay (fun vs H Q E h => by obtain ⟨v0, v1, rfl, _⟩ := h; rfl) (fun cdv A0 outer s H vs Q E hr h => ?_)
  obtain ⟨v0, v1, rfl, h⟩ := h
  exact ⟨_, pss_cons (ps_expr (pe_binit T.base_ (by rfl) (pa_cons (pv 0) (pa_cons pe_str pa_nil)))) (pss_one (ps_ost (pv 0) (pv 1))), init_reads (B := A.c_TieError) T.o_NoWay T.nf_NoWay h⟩
theorem ok_init_NoHues (T : Txt K mg A) : FnOk P w K mg base CX0 1 A.i_NoHues A.di_NoHues ["self", "place"] (spInit A.c_NoHues (Str.ofString "place")) := by
  refine T.Fi_NoHues.ok sc_init_NoHues (fun vs H Q E h => by obtain ⟨v0, v1, rfl, _⟩ := h; rfl) (fun cdv A0 outer s H vs Q E hr h => ?_)
  obtain ⟨v0, v1, rfl, h⟩ := h
  exact ⟨_, pss_cons (ps_expr (pe_binit T.base_ (by rfl) (pa_cons (pv 0) (pa_cons pe_str pa_nil)))) (pss_one (ps_ost (pv 0) (pv 1))), init_reads (B := A.c_TieError) T.o_NoHues T.nf_NoHues h⟩
/-- two ways of one hue that meet, or a hue below 0 -/
def BadM (M : Nat → Nat → Prop) (n : Nat) (hs : List Int) (i j : Nat) : Prop := i ≤ j ∧ j < n ∧ if i = j then hs.getD i 0 < 0 else hs.getD i 0 = hs.getD j 0 ∧ M i j
def FirstM (M : Nat → Nat → Prop) (n : Nat) (hs : List Int) (i j : Nat) : Prop := BadM M n hs i j ∧ ∀ i' j', i' < i ∨ i' = i ∧ j' < j → ¬ BadM M n hs i' j'
def meetL (lain : List (List Int)) (i j : Nat) : Prop := ∃ t, t ∈ lain.getD i [] ∧ t ∈ lain.getD j []
def OutM (M : Nat → Nat → Prop) (n : Nat) (hs : List Int) (H : Hp) (Q : VK) : Prop := (hs.length ≠ n → ∀ p H', H p = none → Same H H' → H' p = some (.tup [.int (-1), .int (-1)]) → Q (.ref p) H') ∧
  (hs.length = n → (∀ i j, ¬ BadM M n hs i j) → ∀ H', Same H H' → Q .non H') ∧ (∀ i j, hs.length = n → FirstM M n hs i j → ∀ p H', H p = none → Same H H' → H' p = some (.tup [.int (i : Nat), .int (j : Nat)]) → Q (.ref p) H')
def pr_first_clash (K : PySem.W.Frag) (v0 v1 : V) (H : Hp) (Q : VK) (_ : XK) : Prop := ∃ (lain : List (List Int)) (hs : List Int) (M : Nat → Nat → Prop), Dp K H v0 (.list (lain.map dInts)) ∧ Dp K H v1 (dInts hs) ∧ lain.length ≤ 1000 ∧ (∀ l ∈ lain, l.length ≤ 1000) ∧
  (∀ i j, i < lain.length → j < lain.length → (meetL lain i j ↔ M i j)) ∧ OutM M lain.length hs H Q
def t_first_clash (K : PySem.W.Frag) : TS :=
  (tSeq (tIfS (tTest (tOp rNe (tCB (rLen K) (tCons (tVar 1) tNil)) (tCB (rLen K) (tCons (tVar 0) tNil)))) (tRet (tTup (tCons (tUn xNeg (tC (.int 1))) (tCons (tUn xNeg (tC (.int 1))) tNil)))) tNext)
    (tSeq (tFor (iRng1 (tCons (tCB (rLen K) (tCons (tVar 0) tNil)) tNil)) (gName 2)
      (tSeq (tIfS (tTest (tOp xLt (tOp (rIxL K) (tVar 1) (tVar 2)) (tC (.int 0)))) (tRet (tTup (tCons (tVar 2) (tCons (tVar 2) tNil)))) tNext)
    (tFor (iRng2 (tCons (tOp xAdd (tVar 2) (tC (.int 1))) (tCons (tCB (rLen K) (tCons (tVar 0) tNil)) tNil))) (gName 3)
      (tIfS (tAnd (tTest (tOp rEq (tOp (rIxL K) (tVar 1) (tVar 2)) (tOp (rIxL K) (tVar 1) (tVar 3)))) (tTest (tOp xGt (tCB (rLen K) (tCons (tLc (iList K (tOp (rIxL K) (tVar 0) (tVar 2))) (gName 4) (tTest (tOp (rIn K false) (tVar 4) (tOp (rIxL K) (tVar 0) (tVar 3)))) (tVar 4) [4]) tNil)) (tC (.int 0))))) (tRet (tTup (tCons (tVar 2) (tCons (tVar 3) tNil)))) tNext))))
    (tRet (tC .non))))
theorem dlists_get {K : PySem.W.Frag} {H : Hp} {xs : List V} {ls : List (List Int)} {i : Nat} (hxs : DpAll K H xs (ls.map dInts)) (hi : i < ls.length) : ∃ c l, xs[i]? = some (.ref c) ∧ ls[i]? = some l ∧ SqL K H c (l.map V.int) := by
  have hl := dpa_len hxs
  rw [List.length_map] at hl
  have hx : xs[i]? = some (xs[i]'(by omega)) := List.getElem?_eq_getElem (by omega)
  obtain ⟨d, hd1, hd2⟩ := dpa_get hxs hx
  rw [List.getElem?_map] at hd1
  obtain ⟨l, h1, rfl⟩ := Option.map_eq_some_iff.mp hd1
  obtain ⟨c, e, h2⟩ := dp_ints hd2
  exact ⟨c, l, by rw [hx, e], h1, h2⟩
theorem getD_of {α : Type} {l : List α} {i : Nat} {x d : α} (h : l[i]? = some x) : l.getD i d = x := by rw [List.getD_eq_getElem?_getD, h]; rfl
theorem meet_fm (xs ys : List Int) : 0 < (xs.filterMap fun t => if t ∈ ys then some (V.int t) else none).length ↔ ∃ t, t ∈ xs ∧ t ∈ ys := by
  rw [List.length_pos_iff_exists_mem]
  constructor
  · rintro ⟨v, hv⟩
    obtain ⟨t, h1, h2⟩ := List.mem_filterMap.mp hv
    by_cases c : t ∈ ys
    · exact ⟨t, h1, c⟩
    · rw [if_neg c] at h2; cases h2
  · rintro ⟨t, h1, h2⟩
    exact ⟨.int t, List.mem_filterMap.mpr ⟨t, h1, by rw [if_pos h2]⟩⟩
theorem pure_first_clash {v0 v1 : V} {H : Hp} {Q : VK} {E : XK} (h : pr_first_clash K v0 v1 H Q E) : t_first_clash K ⟨fun _ H' => Q .non H', Q, fun _ _ => False, fun _ _ => False⟩ [some v0, some v1, none, none, none] H := by
  obtain ⟨lain, hs, M, hd, hh, n1, n2, hM, q0, q1, q2⟩ := h
  obtain ⟨b, xs, rfl, hb, hxs⟩ := dp_list hd
  obtain ⟨c, rfl, hc⟩ := dp_ints hh
  have hl := dpa_len hxs
  rw [List.length_map] at hl
  unfold t_first_clash
  wtm_at "s"
  refine k_itn (fun ne => ?_) (fun eq => ?_)
  · wtm_at "s"
    exact kT (by simp) (fun p H1 np s1 e1 => q0 (by omega) p H1 np s1 e1)
  have eq' : hs.length = lain.length := by omega
  clear eq q0 hh hd
  wtm_at "s"
  refine forR (fun i σ' H' => Same H H' ∧ (∃ k2 k3, σ' = [some (.ref b), some (.ref c), k2, k3, none]) ∧ ∀ i' j', i' < i → ¬ BadM M lain.length hs i' j') ⟨Same.refl _, ⟨none, none, rfl⟩, fun i' j' z => by omega⟩ ?_ ?_
  · rintro i σ' H1 hi ⟨s1, ⟨k2, k3, rfl⟩, no⟩
    rw [Int.zero_add]
    have hi' : i < lain.length := by omega
    obtain ⟨x, hx⟩ : ∃ x, hs[i]? = some x := ⟨hs[i], List.getElem?_eq_getElem (by omega)⟩
    obtain ⟨ci, li, hxi, hli, hci⟩ := dlists_get hxs hi'
    wtm_at "s"
    refine k_ixN (s1.seq hc) hx ?_
    wtm_at "s"
    refine k_it (fun neg => ?_) (fun pos => ?_)
    · wtm_at "s"
      refine kT (by simp) (fun p H2 np s2 e2 => q2 i i eq' ⟨⟨Nat.le_refl _, hi', by rw [if_pos rfl, getD_of hx]; exact neg⟩, fun i' j' z => ?_⟩ p H2 (s1.free np) (s1.trans s2) e2)
      rcases z with z | ⟨rfl, z⟩
      · exact no i' j' z
      · exact fun w => by have := w.1; omega
    · wtm_at "s"
      refine forR (fun t σ' H' => Same H H' ∧ (∃ k3, σ' = [some (.ref b), some (.ref c), some (.int (i : Nat)), k3, none]) ∧ ∀ j', j' < i + 1 + t → ¬ BadM M lain.length hs i j') ⟨s1, ⟨k3, rfl⟩, fun j' z w => ?_⟩ ?_ ?_
      · have e : i = j' := by have := w.1; omega
        subst e
        have := w.2.2
        rw [if_pos rfl, getD_of hx] at this
        exact pos this
      · rintro t σ' H2 ht ⟨s2, ⟨k3, rfl⟩, no2⟩
        rw [show (i : Int) + 1 + ((t : Nat) : Int) = ((i + 1 + t : Nat) : Int) by omega]
        have hj' : i + 1 + t < lain.length := by omega
        have step : ¬ BadM M lain.length hs i (i + 1 + t) → ∀ j', j' < i + 1 + (t + 1) → ¬ BadM M lain.length hs i j' := fun nb j' z => by
          by_cases e : j' = i + 1 + t
          · rw [e]; exact nb
          · exact no2 j' (by omega)
        obtain ⟨y, hy⟩ : ∃ y, hs[i + 1 + t]? = some y := ⟨hs[i + 1 + t], List.getElem?_eq_getElem (by omega)⟩
        obtain ⟨cj, lj, hxj, hlj, hcj⟩ := dlists_get hxs hj'
        have bad : BadM M lain.length hs i (i + 1 + t) ↔ x = y ∧ ∃ t, t ∈ li ∧ t ∈ lj := by
          unfold BadM
          rw [if_neg (by omega), getD_of hx, getD_of hy, ← hM i _ hi' hj']
          unfold meetL
          rw [getD_of hli, getD_of hlj]
          constructor
          · exact fun z => z.2.2
          · exact fun z => ⟨by omega, hj', z⟩
        generalize hje : i + 1 + t = j at hy hxj hlj bad step hj'
        wtm_at "s"
        refine k_ixN (s2.seq hc) hx ?_
        wtm_at "s"
        refine k_ixN (s2.seq hc) hy ?_
        wtm_at "s"
        refine k_it (fun e1 => ?_) (fun e1 => ?_)
        · wtm_at "s"
          refine k_ixL (s2.seq hb) (atI_nat hxi) ?_
          refine lc_pure (s2.seq hci) li (by simp) (by have := n2 li (List.mem_of_getElem? hli); omega) (fun t => if t ∈ lj then some (V.int t) else none) ?_ (fun D H3 nD s3 eD => ?_)
          · intro k z p H' hz hp sm R R0 h1 h2
            rw [List.getElem?_map, hp] at hz
            cases hz
            wtm_at "s"
            refine k_ixL (sm.seq (s2.seq hb)) (atI_nat hxj) ?_
            have hcj' := sm.seq (s2.seq hcj)
            wtm_at "s"
            refine k_it (fun w => ?_) (fun w => ?_)
            · wtm_at "s"
              exact h1 _ (by rw [if_pos w])
            · exact h2 (by rw [if_neg w])
          · wtm_at "s"
            refine k_it (fun w => ?_) (fun w => ?_)
            · wtm_at "s"
              have mt := (meet_fm li lj).mp (by omega)
              refine kT (by simp) (fun p H4 np s4 e4 => q2 i j eq' ⟨bad.mpr ⟨e1, mt⟩, fun i' j' z => ?_⟩ p H4 ((s2.trans s3).free np) (s2.trans (s3.trans s4)) e4)
              rcases z with z | ⟨rfl, z⟩
              · exact no i' j' z
              · exact no2 j' (by omega)
            · wtm_at "s"
              exact ⟨s2.trans s3, ⟨_, rfl⟩, step fun z => w (by have := (meet_fm li lj).mpr (bad.mp z).2; omega)⟩
        · wtm_at "s"
          exact ⟨s2, ⟨_, rfl⟩, step fun z => e1 (bad.mp z).1⟩
      · rintro σ' H2 ⟨s2, ⟨k3, rfl⟩, no2⟩
        refine ⟨s2, ⟨_, _, rfl⟩, fun i' j' z => ?_⟩
        by_cases e : i' = i
        · subst e
          by_cases hj : j' < lain.length
          · exact no2 j' (by omega)
          · exact fun w => hj w.2.1
        · exact no i' j' (by omega)
  · rintro σ' H1 ⟨s1, ⟨k2, k3, rfl⟩, no⟩
    wtm_at "s"
    exact q1 eq' (fun i j z => no i j (by have := z.1; have := z.2.1; omega) z) H1 s1
abbrev sp_first_clash (K : PySem.W.Frag) : Sp := fun vs H Q E => ∃ v0 v1, vs = [v0, v1] ∧ pr_first_clash K v0 v1 H Q E
theorem ok_first_clash (T : Txt K mg A) : FnOk P w K mg base CX0 1 A.a_first_clash A.d_first_clash ["lain", "hues"] (sp_first_clash K) := by
  refine T.F_first_clash.ok sc_first_clash (fun vs H Q E h => by obtain ⟨v0, v1, rfl, _⟩ := h; rfl) (fun cdv A0 outer s H vs Q E hr h => ?_)
  obtain ⟨v0, v1, rfl, h⟩ := h
  exact ⟨t_first_clash K, (pss_cons (ps_if (pt_cmpR op_ne (pe_callB q_len (by rfl) T.z_len (by decide +kernel) (pa_cons (pv 1) pa_nil)) (pe_callB q_len (by rfl) T.z_len (by decide +kernel) (pa_cons (pv 0) pa_nil)) (nomark _)) (pss_one (ps_ret (pe_tup (pa_cons (pe_un un_neg pe_int) (pa_cons (pe_un un_neg pe_int) pa_nil))))) pss_nil)
      (pss_cons (ps_for PassesOwn.never rfl (pi_range1 (by rfl) T.z_range (pa_cons (pe_callB q_len (by rfl) T.z_len (by decide +kernel) (pa_cons (pv 0) pa_nil)) pa_nil)) (pg_name (i := 2) sc_first_clash.nd rfl (Or.inl rfl))
      (pss_cons (ps_if (pt_cmpR op_lt (pe_ix ix_list (pv 1) (pv 2) (fun _ _ => rfl)) pe_int (nomark _)) (pss_one (ps_ret (pe_tup (pa_cons (pv 2) (pa_cons (pv 2) pa_nil))))) pss_nil)
      (pss_one (ps_for PassesOwn.never rfl (pi_range2 (by rfl) T.z_range (pa_cons (pe_op op_add (pv 2) pe_int) (pa_cons (pe_callB q_len (by rfl) T.z_len (by decide +kernel) (pa_cons (pv 0) pa_nil)) pa_nil))) (pg_name (i := 3) sc_first_clash.nd rfl (Or.inr rfl))
      (pss_one (ps_if (PW.pt (pw_and (pt_cmpR op_eq (pe_ix ix_list (pv 1) (pv 2) (fun _ _ => rfl)) (pe_ix ix_list (pv 1) (pv 3) (fun _ _ => rfl)) (nomark _)) (pw_and1 (pt_cmpR op_gt (pe_callB q_len (by rfl) T.z_len (by decide +kernel) (pa_cons (pe_lc (own := [("tie", 4)]) (by rfl) sc_first_clash.nd (pi_list (pe_ix ix_list (pv 0) (pv 2) (fun _ _ => rfl))) (blkOk_by (own := [("tie", 4)]) (N := ["lain", "hues", "i", "j", "tie"]) (sc := defScope s_first_clash) (by decide +kernel)) (fun _ _ _ _ _ => (pg_name (i := 4) sc_first_clash.nd rfl (Or.inl rfl))) (fun _ _ _ _ _ => (pts_one (pt_cmpR op_in_seq (pv 4) (pe_ix ix_list (pv 0) (pv 3) (fun _ _ => rfl)) (by rfl)))) (fun _ _ _ _ _ => (pv 4))) pa_nil)) pe_int (nomark _))))) (pss_one (ps_ret (pe_tup (pa_cons (pv 2) (pa_cons (pv 3) pa_nil))))) pss_nil))))))
      (pss_one (ps_ret pe_non)))), pure_first_clash h⟩
def meetW (N : Net) (ws : List (Int × Int)) (i j : Nat) : Prop := ∃ w v t, ws[i]? = some w ∧ ws[j]? = some v ∧ OnTie N w.1 w.2 t ∧ OnTie N v.1 v.2 t
def LainOf (N : Net) (ws : List (Int × Int)) (lain : List (List Int)) : Prop := lain.length = ws.length ∧ ∀ (i : Nat) w l, ws[i]? = some w → lain[i]? = some l → l.Pairwise (· < ·) ∧ ∀ t, t ∈ l ↔ OnTie N w.1 w.2 t
theorem LainOf.meet {N : Net} {ws : List (Int × Int)} {lain : List (List Int)} (h : LainOf N ws lain) {i j : Nat} (hi : i < lain.length) (hj : j < lain.length) : meetL lain i j ↔ meetW N ws i j := by
  obtain ⟨hl, h⟩ := h
  have e1 : ws[i]? = some (ws[i]'(by omega)) := List.getElem?_eq_getElem (by omega)
  have e2 : ws[j]? = some (ws[j]'(by omega)) := List.getElem?_eq_getElem (by omega)
  have e3 : lain[i]? = some lain[i] := List.getElem?_eq_getElem hi
  have e4 : lain[j]? = some lain[j] := List.getElem?_eq_getElem hj
  unfold meetL meetW
  rw [getD_of e3, getD_of e4]
  constructor
  · rintro ⟨t, h1, h2⟩
    exact ⟨_, _, t, e1, e2, ((h i _ _ e1 e3).2 t).mp h1, ((h j _ _ e2 e4).2 t).mp h2⟩
  · rintro ⟨w, v, t, f1, f2, h1, h2⟩
    rw [e1] at f1; rw [e2] at f2
    cases f1; cases f2
    exact ⟨t, ((h i _ _ e1 e3).2 t).mpr h1, ((h j _ _ e2 e4).2 t).mpr h2⟩
theorem ok_places {N : Net} (h : N.ok) : N.places ≤ 60 := by
  cases N with
  | line n => exact h.2
  | ring n => exact h.2
  | tree ps => show (ps.length : Int) + 1 ≤ 60; have := h.2.1; omega
/-- the ties of each way, one list for each -/
theorem lc_lainG {σ : L2.St} {vs : List Nat} {j : Nat} {te : TE} {a : Addr} {xs : List V} {N : Net} {ws : List (Int × Int)} {H1 : Hp} {QD : Addr → Hp → Prop} (S0 : List Addr) (hS : ∀ b ∈ S0, H1 b ≠ none) (hs : SqL K H1 a xs) (hxs : DpAll K H1 xs (ws.map dPair)) (hz : ws.length ≤ 1000)
    (step : ∀ c w H' (R : V → Hp → Prop), w ∈ ws → Same H1 H' → SqT K H' c [.int w.1, .int w.2] → (∀ p ns H'', H' p = none → Same H' H'' → H'' p = some (.lst (List.map V.int ns)) → ns.Pairwise (· < ·) → (∀ t, t ∈ ns ↔ OnTie N w.1 w.2 t) → R (.ref p) H'') → te ((wipe σ vs).set j (some (.ref c))) H' R)
    (hwp : ∀ x, wipe ((wipe σ vs).set j (some x)) vs = wipe σ vs)
    (h : ∀ D lain H', H1 D = none → Same H1 H' → Dp K (hid S0 H') (.ref D) (.list (lain.map dInts)) → LainOf N ws lain → QD D H') :
    ∃ a', V.ref a = .ref a' ∧ (∃ xs, SqL K H1 a' xs) ∧ ∀ D, H1 D = none → ∃ W : Nat → Nat → Hp → Prop, (∃ m, W 0 m (upd H1 D (.lst []))) ∧ ∀ t m H, W t m H →
      ((Itl K a').stop t H ∧ QD D H) ∨ ((Itl K a').go t H ∧ ∃ Nx : Hp → Prop, (∀ H', Nx H' → ∃ m', m' < m ∧ W (t + 1) m' H') ∧ ∀ x H', (Itl K a').yld t H x H' → gName j x (wipe σ vs) H' fun σ2 H2 => wipe σ2 vs = wipe σ vs ∧ tYes σ2 H2 fun b H3 =>
        if b = true then te σ2 H3 fun y H4 => ∃ acc, H4 D = some (.lst acc) ∧ acc.length < sizeLine ∧ Nx (upd H4 D (.lst (acc ++ [y]))) else Nx H3) := by
  have hl := dpa_len hxs
  rw [List.length_map] at hl
  refine ⟨a, rfl, ⟨xs, hs⟩, fun D nD => lc_list (xs := xs) (fun t H => Same H1 H ∧ ∃ ys lain, H D = some (.lst ys) ∧ DpAll K (hid (D :: S0) H) ys (lain.map dInts) ∧ LainOf N (ws.take t) lain) ⟨same_new nD, [], [], upd_same, .nil, ⟨by simp, fun i w l z => by simp at z⟩⟩ (fun t H _ e => e.1.seq hs) ?_ ?_⟩
  · rintro t x H hx ⟨sm, ys, lain, hD, hys, ⟨ll, hla⟩⟩
    have ht : t < ws.length := by rw [← hl]; exact (List.getElem?_eq_some_iff.mp hx).1
    obtain ⟨w, c, hw, rfl, hc⟩ := dpairs_get hxs hx
    refine k_gname (k_wipe (hwp _) ?_)
    refine k_yes (iteT (step c w H _ (List.mem_of_getElem? hw) sm (same_seqT sm hc) fun p ns H' np s' hp srt mem => ?_))
    have pD : p ∉ D :: S0 := fun z => by
      rcases List.mem_cons.mp z with z | z
      · rw [z, hD] at np; cases np
      · exact hS p z (sm.free np)
    have ly := dpa_len hys
    rw [List.length_map] at ly
    have lt : (ws.take t).length = t := by rw [List.length_take]; omega
    refine ⟨ys, s' _ _ hD, szl (by omega), same_mut (sm.trans s') nD, ys ++ [.ref p], lain ++ [ns], upd_same, ?_, ⟨?_, fun k w' l hk hkl => ?_⟩⟩
    · rw [hid_upd (by simp), List.map_append]
      exact dpa_app (dpa_same (hid_mono s') hys) (.cons (dp_of_ints (sl (by rw [hid_ne pD]; exact hp))) .nil)
    · rw [List.length_append, ll, List.take_add_one, hw]; simp
    · rw [List.take_add_one, hw] at hk
      by_cases ck : k < t
      · rw [List.getElem?_append_left (by omega)] at hk hkl
        exact hla k w' l hk hkl
      · have e : k = t := by
          have := (List.getElem?_eq_some_iff.mp hk).1
          rw [List.length_append, lt] at this
          simp at this; omega
        subst e
        rw [List.getElem?_append_right (by omega), lt] at hk
        rw [List.getElem?_append_right (by omega), ll, lt] at hkl
        simp at hk hkl
        subst hk; subst hkl
        exact ⟨srt, mem⟩
  · rintro H ⟨sm, ys, lain, hD, hys, hla⟩
    rw [hl, List.take_length] at hla
    refine h D lain H nD sm (.lst (sl (xs := ys) ?_) (dpa_same (hid_sub fun x hx => List.mem_cons_of_mem _ hx) hys)) hla
    rw [hid_ne fun z => hS D z nD]; exact hD
theorem ss_len60 : ∀ {xs : List Int} {lo hi : Int}, xs.Pairwise (· < ·) → (∀ t ∈ xs, lo ≤ t ∧ t < hi) → xs.length ≤ (hi - lo).toNat
  | [], _, _, _, _ => Nat.zero_le _
  | x :: xs, lo, hi, h, hb => by
    obtain ⟨a1, a2⟩ := List.pairwise_cons.mp h
    have := ss_len60 (lo := x + 1) (hi := hi) a2 fun t ht => ⟨by have := a1 t ht; omega, (hb t (List.mem_cons_of_mem _ ht)).2⟩
    have := hb x List.mem_cons_self
    rw [List.length_cons]; omega
theorem tie_in {N : Net} (ok : N.ok) {a b t : Int} (h : isWay N a b) (ht : OnTie N a b t) : 0 ≤ t ∧ t < 60 := by
  obtain ⟨w1, w2, w3, w4, w5⟩ := h
  cases N with
  | line n => have h1 : a < n := w4; have h2 : b < n := w5; have h3 : n ≤ 60 := ok.2; have h4 : min a b ≤ t ∧ t < max a b := ht; omega
  | ring n => have h3 : n ≤ 60 := ok.2; have h4 : 0 ≤ t ∧ t < n ∧ _ := ht; omega
  | tree ps => have h3 : ps.length < 60 := ok.2.1; have h4 : 0 ≤ t ∧ t < (ps.length : Int) ∧ _ := ht; omega
theorem LainOf.small {N : Net} {ws : List (Int × Int)} {lain : List (List Int)} (h : LainOf N ws lain) (ok : N.ok) (hok : ∀ w ∈ ws, isWay N w.1 w.2) : ∀ l ∈ lain, l.length ≤ 60 := fun l hl => by
  obtain ⟨i, hi, e⟩ := List.getElem_of_mem hl
  obtain ⟨h1, h2⟩ := h
  have e1 : ws[i]? = some (ws[i]'(by omega)) := List.getElem?_eq_getElem (by omega)
  obtain ⟨s, m⟩ := h2 i _ l e1 (by rw [List.getElem?_eq_getElem hi, e])
  exact ss_len60 (lo := 0) (hi := 60) s fun t ht => tie_in ok (hok _ (List.mem_of_getElem? e1)) ((m t).mp ht)
def pr_clash (K : PySem.W.Frag) (v0 v1 v2 : V) (H : Hp) (Q : VK) (_ : XK) : Prop := ∃ (N : Net) (ws : List (Int × Int)) (hs : List Int), Dp K H v0 N.d ∧ N.ok ∧ Dp K H v1 (dPairs ws) ∧ ws.length ≤ 1000 ∧ (∀ w ∈ ws, isWay N w.1 w.2) ∧ Dp K H v2 (dInts hs) ∧ OutM (meetW N ws) ws.length hs H Q
def t_clash (K : PySem.W.Frag) : TS :=
  (tSeq (tDrop (tCall (sp_look_ways K) [] E0 (tCons (tVar 0) (tCons (tVar 1) tNil))))
    (tRet (tCall (sp_first_clash K) [] E0 (tCons (tLc (iList K (tVar 1)) (gName 3) tYes (tCall (sp_ties_on K) [] E0 (tCons (tVar 0) (tCons (tVar 3) tNil))) [3]) (tCons (tVar 2) tNil)))))
theorem pure_clash {v0 v1 v2 : V} {H : Hp} {Q : VK} {E : XK} (h : pr_clash K v0 v1 v2 H Q E) : t_clash K ⟨fun _ H' => Q .non H', Q, fun _ _ => False, fun _ _ => False⟩ [some v0, some v1, some v2, none] H := by
  obtain ⟨N, ws, hs, hd, ok, hw, hz, hok, hh, q0, q1, q2⟩ := h
  unfold t_clash
  wtm_at "s"
  refine ⟨_, _, rfl, N, ws, hd, ok, hw, by omega, hok, ?_⟩
  obtain ⟨b, xs, rfl, hb, hxs⟩ := dp_list hw
  wtm_at "s"
  refine lc_lainG (N := N) [] (fun _ z => by cases z) hb hxs hz (fun c w H' R hw' sm hc' hR => ?_) (fun _ => rfl) (fun D lain H1 nD s1 dD la => ?_)
  · wtm_at "s"
    exact ⟨_, _, rfl, N, w.1, w.2, dp_same sm hd, dp_of_pair hc', ok, hok w hw', fun p ns H'' np s' hp ti => hR p ns H'' np s' hp ti.srt ti.mem⟩
  wtm_at "s"
  refine ⟨_, _, rfl, lain, hs, meetW N ws, dp_same (hid_same _ _) dD, dp_same s1 hh, by rw [la.1]; omega, fun l hl => by have := la.small ok hok l hl; omega, fun i j hi hj => la.meet hi hj, ?_⟩
  rw [la.1]
  exact ⟨fun z p H' np sm e => q0 z p H' (s1.free np) (s1.trans sm) e, fun z1 z2 H' sm => q1 z1 z2 H' (s1.trans sm), fun i j z1 z2 p H' np sm e => q2 i j z1 z2 p H' (s1.free np) (s1.trans sm) e⟩
abbrev sp_clash (K : PySem.W.Frag) : Sp := fun vs H Q E => ∃ v0 v1 v2, vs = [v0, v1, v2] ∧ pr_clash K v0 v1 v2 H Q E
theorem ok_clash (T : Txt K mg A) : FnOk P w K mg base CX0 5 A.a_clash A.d_clash ["net", "ways", "hues"] (sp_clash K) := by
  refine T.F_clash.ok sc_clash (fun vs H Q E h => by obtain ⟨v0, v1, v2, rfl, _⟩ := h; rfl) (fun cdv A0 outer s H vs Q E hr h => ?_)
  obtain ⟨v0, v1, v2, rfl, h⟩ := h
  exact ⟨t_clash K, (pss_cons (ps_expr (pe_call (ok_look_ways T) (hr.mono (by decide)) (by rfl) T.g_look_ways T.F_look_ways.kp T.b_look_ways .nil pass0 (pa_cons (pv 0) (pa_cons (pv 1) pa_nil))))
      (pss_one (ps_ret (pe_call (ok_first_clash T) (hr.mono (by decide)) (by rfl) T.g_first_clash T.F_first_clash.kp T.b_first_clash .nil pass0 (pa_cons (pe_lc (own := [("way", 3)]) (by rfl) sc_clash.nd (pi_list (pv 1)) (blkOk_by (own := [("way", 3)]) (N := ["net", "ways", "hues", "way"]) (sc := defScope s_clash) (by decide +kernel)) (fun _ _ _ _ _ => (pg_name (i := 3) sc_clash.nd rfl (Or.inl rfl))) (fun _ _ _ _ _ => pts_nil) (fun _ _ _ _ _ => (pe_call (ok_ties_on T) (hr.mono (by decide)) (by rfl) T.g_ties_on T.F_ties_on.kp T.b_ties_on .nil pass0 (pa_cons (pv 0) (pa_cons (pv 3) pa_nil))))) (pa_cons (pv 2) pa_nil)))))), pure_clash h⟩
theorem kept_same {H H' : Hp} {a D : Addr} (k : KeptAt H a D) (s : Same H H') : KeptAt H' a D := by
  obtain ⟨d, e, h⟩ := k
  refine ⟨d, s _ _ e, ?_⟩
  rcases h with h | ⟨dd, fs, h1, h2⟩
  · exact .inl h
  · exact .inr ⟨dd, fs, h1, s _ _ h2⟩


/-! ### ways as they come: levels, own ties, three hues to a level -/
abbrev Ent := (Int × Int) × Nat
def onI (w : Int × Int) (t : Int) : Prop := w.1 ≤ t ∧ t ≤ w.2
def pUp (t : Int) (i : Nat) (e : Ent) : Bool := decide (e.2 ≤ i) && (decide (e.1.1 ≤ t) && decide (t ≤ e.1.2))
def upto (es : List Ent) (t : Int) (i : Nat) : Nat := es.countP (pUp t i)
def LevelOf (es : List Ent) (w : Int × Int) (i : Nat) : Prop := 1 ≤ i ∧ (∀ t, onI w t → upto es t i < i) ∧ ∀ j, 1 ≤ j → j < i → ∃ t, onI w t ∧ j ≤ upto es t j
def GoodE (es : List Ent) : Prop := ∀ n w i, es[n]? = some (w, i) → w.1 ≤ w.2 ∧ LevelOf (es.take n) w i
theorem pUp_on {t : Int} {i : Nat} {e : Ent} : pUp t i e = true ↔ e.2 ≤ i ∧ onI e.1 t := by
  unfold pUp onI
  simp [Bool.and_eq_true, decide_eq_true_eq]
theorem upto_take {es : List Ent} {t : Int} {i n m : Nat} (h : n ≤ m) : upto (es.take n) t i ≤ upto (es.take m) t i := by
  have : es.take n = (es.take m).take n := by rw [List.take_take, Nat.min_eq_left h]
  rw [this]
  exact (List.take_sublist n (es.take m)).countP_le
theorem upto_lev {es : List Ent} {t : Int} {i j : Nat} (h : i ≤ j) : upto es t i ≤ upto es t j := List.countP_mono_left fun e _ he => by
  rw [pUp_on] at he ⊢
  exact ⟨by omega, he.2⟩
theorem upto_zero {es : List Ent} {t : Int} (h : ∀ e ∈ es, 1 ≤ e.2) : upto es t 0 = 0 := by
  unfold upto
  rw [List.countP_eq_zero]
  intro e he z
  have := h e he
  rw [pUp_on] at z
  omega
theorem take_at {α : Type} {es : List α} {k : Nat} {e : α} (h : es[k]? = some e) : es.take (k + 1) = es.take k ++ [e] := by
  rw [List.take_add_one, h]; rfl
theorem upto_next {es : List Ent} {t : Int} {i k m : Nat} {e : Ent} (h : es[k]? = some e) (hk : k < m) (hp : pUp t i e = true) : upto (es.take k) t i + 1 ≤ upto (es.take m) t i := by
  refine Nat.le_trans ?_ (upto_take (n := k + 1) hk)
  rw [take_at h]
  unfold upto
  rw [List.countP_append]
  simp [hp]
theorem upto_step {es : List Ent} {t : Int} {i k : Nat} {e : Ent} (h : es[k]? = some e) (hi : e.2 = i) (i1 : 1 ≤ i) (ht : onI e.1 t) : upto es t (i - 1) + 1 ≤ upto es t i := by
  obtain ⟨h1, h2⟩ := List.getElem?_eq_some_iff.mp h
  have sp : es = es.take k ++ e :: es.drop (k + 1) := by
    rw [← h2, ← List.drop_eq_getElem_cons h1, List.take_append_drop]
  have a := upto_lev (es := es.take k) (t := t) (i := i - 1) (j := i) (by omega)
  have b := upto_lev (es := es.drop (k + 1)) (t := t) (i := i - 1) (j := i) (by omega)
  have c : pUp t i e = true := pUp_on.mpr ⟨by omega, ht⟩
  have d : pUp t (i - 1) e = false := by
    cases hh : pUp t (i - 1) e with
    | false => rfl
    | true => have := (pUp_on.mp hh).1; omega
  rw [sp]
  unfold upto at a b ⊢
  rw [List.countP_append, List.countP_append, List.countP_cons, List.countP_cons, c, d]
  simp only [if_true, Bool.false_eq_true, if_false]
  omega
theorem good_pos {es : List Ent} (g : GoodE es) : ∀ e ∈ es, 1 ≤ e.2 := fun e he => by
  obtain ⟨k, hk, h⟩ := List.getElem_of_mem he
  exact (g k e.1 e.2 (by rw [List.getElem?_eq_getElem hk, h])).2.1
theorem good_take {es : List Ent} (g : GoodE es) (n : Nat) : GoodE (es.take n) := fun k w i h => by
  rw [List.getElem?_take] at h
  split at h
  · have := g k w i h
    rw [List.take_take, Nat.min_eq_left (by omega)]
    exact this
  · cases h
/-- a way's own tie: no other way of its level lies on it -/
theorem own_is {es : List Ent} (g : GoodE es) {n i : Nat} {w : Int × Int} (h : es[n]? = some (w, i)) {t : Int} (ht : onI w t) (hu : i - 1 ≤ upto (es.take n) t (i - 1)) : ∀ m e, es[m]? = some e → m ≠ n → e.2 = i → ¬ onI e.1 t := by
  obtain ⟨_, l1, l2, _⟩ := g n w i h
  intro m e hm ne he on
  have u1 := l2 t ht
  by_cases c : m < n
  · have hm' : (es.take n)[m]? = some e := by rw [List.getElem?_take, if_pos c]; exact hm
    have := upto_step hm' he l1 on
    omega
  · have u2 := upto_lev (es := es.take n) (t := t) (i := i - 1) (j := i) (by omega)
    have u3 := upto_next (t := t) (i := i) h (show n < m by omega) (pUp_on.mpr ⟨Nat.le_refl _, ht⟩)
    obtain ⟨ew, ei⟩ := e
    have he' : ei = i := he
    subst he'
    obtain ⟨_, _, l2', _⟩ := g m ew ei hm
    have := l2' t on
    omega
theorem own_ex {es : List Ent} (g : GoodE es) {n i : Nat} {w : Int × Int} (h : es[n]? = some (w, i)) : ∃ t, onI w t ∧ i - 1 ≤ upto (es.take n) t (i - 1) := by
  obtain ⟨hw, l1, l2, l3⟩ := g n w i h
  by_cases c : i = 1
  · subst c
    exact ⟨w.1, ⟨by omega, hw⟩, Nat.zero_le _⟩
  · obtain ⟨t, h1, h2⟩ := l3 (i - 1) (by omega) (by omega)
    exact ⟨t, h1, h2⟩
def meetI (w v : Int × Int) : Prop := max w.1 v.1 ≤ min w.2 v.2
/-- of three ways of one level no two lie to the same side of a third one that they meet -/
theorem one_side {es : List Ent} (g : GoodE es) {n a b i : Nat} {w x y : Int × Int} {t : Int} (hn : es[n]? = some (w, i)) (ha : es[a]? = some (x, i)) (hb : es[b]? = some (y, i)) (an : a ≠ n) (bn : b ≠ n) (ht : onI w t) (hu : i - 1 ≤ upto (es.take n) t (i - 1))
    (ma : meetI x w) (mb : meetI y w) (side : (x.2 < t ∧ y.2 < t) ∨ (t < x.1 ∧ t < y.1)) : a = b := by
  refine Classical.byContradiction fun ne => ?_
  obtain ⟨p, p1, p2⟩ := own_ex g ha
  obtain ⟨q, q1, q2⟩ := own_ex g hb
  have pw := own_is g ha p1 p2 n _ hn (fun z => an z.symm) rfl
  have py := own_is g ha p1 p2 b _ hb (fun z => ne z.symm) rfl
  have qw := own_is g hb q1 q2 n _ hn (fun z => bn z.symm) rfl
  have qx := own_is g hb q1 q2 a _ ha ne rfl
  unfold onI at p1 q1 pw py qw qx ht
  unfold meetI at ma mb
  simp only at pw py qw qx
  rcases side with ⟨s1, s2⟩ | ⟨s1, s2⟩ <;> omega
theorem side_of {es : List Ent} (g : GoodE es) {n a i : Nat} {w x : Int × Int} {t : Int} (hn : es[n]? = some (w, i)) (ha : es[a]? = some (x, i)) (an : a ≠ n) (ht : onI w t) (hu : i - 1 ≤ upto (es.take n) t (i - 1)) : x.2 < t ∨ t < x.1 := by
  have := own_is g hn ht hu a _ ha an rfl
  unfold onI at this
  simp only at this
  omega
/-- no three ways of its level meet a way -/
theorem no_three {es : List Ent} (g : GoodE es) {n a b c i : Nat} {w x y z : Int × Int} (hn : es[n]? = some (w, i)) (ha : es[a]? = some (x, i)) (hb : es[b]? = some (y, i)) (hc : es[c]? = some (z, i)) (an : a ≠ n) (bn : b ≠ n) (cn : c ≠ n)
    (ma : meetI x w) (mb : meetI y w) (mc : meetI z w) (ab : a ≠ b) (ac : a ≠ c) (bc : b ≠ c) : False := by
  obtain ⟨t, ht, hu⟩ := own_ex g hn
  rcases side_of g hn ha an ht hu with s1 | s1 <;> rcases side_of g hn hb bn ht hu with s2 | s2 <;> rcases side_of g hn hc cn ht hu with s3 | s3
  · exact ab (one_side g hn ha hb an bn ht hu ma mb (.inl ⟨s1, s2⟩))
  · exact ab (one_side g hn ha hb an bn ht hu ma mb (.inl ⟨s1, s2⟩))
  · exact ac (one_side g hn ha hc an cn ht hu ma mc (.inl ⟨s1, s3⟩))
  · exact bc (one_side g hn hb hc bn cn ht hu mb mc (.inr ⟨s2, s3⟩))
  · exact bc (one_side g hn hb hc bn cn ht hu mb mc (.inl ⟨s2, s3⟩))
  · exact ac (one_side g hn ha hc an cn ht hu ma mc (.inr ⟨s1, s3⟩))
  · exact ab (one_side g hn ha hb an bn ht hu ma mb (.inr ⟨s1, s2⟩))
  · exact ab (one_side g hn ha hb an bn ht hu ma mb (.inr ⟨s1, s2⟩))
/-- a way of level one meets no other one -/
theorem one_alone {es : List Ent} (g : GoodE es) {n a : Nat} {w x : Int × Int} (hn : es[n]? = some (w, 1)) (ha : es[a]? = some (x, 1)) (an : a < n) (ma : meetI x w) : False := by
  obtain ⟨hw, _, l2, _⟩ := g n w 1 hn
  obtain ⟨hx, _⟩ := g a x 1 ha
  unfold meetI at ma
  have on1 : onI w (max x.1 w.1) := ⟨by omega, by omega⟩
  have on2 : onI x (max x.1 w.1) := ⟨by omega, by omega⟩
  have := upto_next (t := max x.1 w.1) (i := 1) ha an (pUp_on.mpr ⟨Nat.le_refl _, on2⟩)
  have := l2 _ on1
  omega
/-- a level is told: at the worst one more than there are ways -/
theorem level_ex (es : List Ent) (w : Int × Int) : ∃ i, i ≤ es.length + 1 ∧ LevelOf es w i := by
  have ex : ∃ i, 1 ≤ i ∧ ∀ t, onI w t → upto es t i < i := ⟨es.length + 1, by omega, fun t _ => by
    have : upto es t (es.length + 1) ≤ es.length := List.countP_le_length
    omega⟩
  have key : ∀ n, (∃ i, i ≤ n ∧ 1 ≤ i ∧ ∀ t, onI w t → upto es t i < i) → ∃ i, i ≤ n ∧ LevelOf es w i := by
    intro n
    induction n with
    | zero => rintro ⟨i, h1, h2, _⟩; omega
    | succ n ih =>
      rintro ⟨i, h1, h2, h3⟩
      by_cases c : ∃ i, i ≤ n ∧ 1 ≤ i ∧ ∀ t, onI w t → upto es t i < i
      · obtain ⟨i, h, l⟩ := ih c
        exact ⟨i, by omega, l⟩
      · refine ⟨i, h1, h2, h3, fun j j1 ji => Classical.byContradiction fun z => c ⟨j, by omega, j1, fun t ht => ?_⟩⟩
        by_cases d : upto es t j < j
        · exact d
        · exact absurd ⟨t, ht, by omega⟩ z
  refine key (es.length + 1) ⟨es.length + 1, Nat.le_refl _, by omega, fun t _ => ?_⟩
  have : upto es t (es.length + 1) ≤ es.length := List.countP_le_length
  omega
theorem level_one {es : List Ent} {w : Int × Int} {i j : Nat} (h : LevelOf es w i) (h' : LevelOf es w j) : i = j := by
  obtain ⟨a1, a2, a3⟩ := h
  obtain ⟨b1, b2, b3⟩ := h'
  rcases Nat.lt_trichotomy i j with c | c | c
  · obtain ⟨t, t1, t2⟩ := b3 i a1 c
    have := a2 t t1
    omega
  · exact c
  · obtain ⟨t, t1, t2⟩ := a3 j b1 c
    have := b2 t t1
    omega
theorem good_more {es : List Ent} {w : Int × Int} {i : Nat} (g : GoodE es) (hw : w.1 ≤ w.2) (l : LevelOf es w i) : GoodE (es ++ [(w, i)]) := fun n v j h => by
  by_cases c : n < es.length
  · rw [List.getElem?_append_left c] at h
    rw [List.take_append_of_le_length (by omega)]
    exact g n v j h
  · have hn : n = es.length := by
      have := (List.getElem?_eq_some_iff.mp h).1
      simp at this
      omega
    subst hn
    rw [List.getElem?_append_right (Nat.le_refl _)] at h
    simp at h
    obtain ⟨rfl, rfl⟩ := h
    rw [List.take_left]
    exact ⟨hw, l⟩
/-- no level is greater than the load at its own tie -/
theorem level_load {es : List Ent} (g : GoodE es) {n i : Nat} {w : Int × Int} (h : es[n]? = some (w, i)) : ∃ t, onI w t ∧ i ≤ es.countP fun e => decide (e.1.1 ≤ t) && decide (t ≤ e.1.2) := by
  obtain ⟨t, h1, h2⟩ := own_ex g h
  obtain ⟨_, l1, _⟩ := g n w i h
  refine ⟨t, h1, ?_⟩
  have u2 := upto_lev (es := es.take n) (t := t) (i := i - 1) (j := i) (by omega)
  have u3 := upto_next (t := t) (i := i) h (show n < n + 1 by omega) (pUp_on.mpr ⟨Nat.le_refl _, h1⟩)
  have u4 : upto (es.take (n + 1)) t i ≤ upto es t i := (List.take_sublist _ es).countP_le
  have u5 : upto es t i ≤ es.countP fun e => decide (e.1.1 ≤ t) && decide (t ≤ e.1.2) := List.countP_mono_left fun e _ he => by
    have := (pUp_on.mp he).2
    unfold onI at this
    simp [this.1, this.2]
  omega


def pr_law_mix (K : PySem.W.Frag) (v0 v1 : V) (H : Hp) (Q : VK) (_ : XK) : Prop := ∃ x k : Int, v0 = .int x ∧ v1 = .int k ∧ 0 ≤ x ∧ x < 2147483629 ∧ 0 ≤ k ∧ k < 10000000 ∧ ∀ r, 0 ≤ r → r < 2147483587 → Q (.int r) H
def t_law_mix (K : PySem.W.Frag) : TS :=
  (tSeq (tAsg (tOp xMod (tOp xMul (tOp xAdd (tOp xAdd (tOp xMul (tVar 0) (tVar 0)) (tOp xMul (tVar 1) (tVar 0))) (tOp xMul (tOp xMul (tC (.int 7)) (tVar 1)) (tVar 1))) (tC (.int 1103515245))) (tC (.int 2147483629))) (gName 2))
    (tRet (tOp xMod (tOp xMul (tVar 2) (tVar 2)) (tC (.int 2147483587)))))
theorem pure_law_mix {v0 v1 : V} {H : Hp} {Q : VK} {E : XK} (h : pr_law_mix K v0 v1 H Q E) : t_law_mix K ⟨fun _ H' => Q .non H', Q, fun _ _ => False, fun _ _ => False⟩ [some v0, some v1, none] H := by
  obtain ⟨x, k, rfl, rfl, x0, x1, k0, k1, q⟩ := h
  unfold t_law_mix
  wtm_at "s"
  exact q _ (Int.emod_nonneg _ (by decide)) (Int.emod_lt_of_pos _ (by decide))
abbrev sp_law_mix (K : PySem.W.Frag) : Sp := fun vs H Q E => ∃ v0 v1, vs = [v0, v1] ∧ pr_law_mix K v0 v1 H Q E
theorem ok_law_mix (T : Txt K mg A) : FnOk P w K mg base CX0 1 A.a_law_mix A.d_law_mix ["_law_number", "_law_k"] (sp_law_mix K) := by
  refine T.F_law_mix.ok sc_law_mix (fun vs H Q E h => by obtain ⟨v0, v1, rfl, _⟩ := h; rfl) (fun cdv A0 outer s H vs Q E hr h => ?_)
  obtain ⟨v0, v1, rfl, h⟩ := h
  exact ⟨t_law_mix K, (pss_cons (ps_set (i := 2) sc_law_mix.nd rfl (Or.inl rfl) (pe_op op_mod (pe_op op_mul (pe_op op_add (pe_op op_add (pe_op op_mul (pv 0) (pv 0)) (pe_op op_mul (pv 1) (pv 0))) (pe_op op_mul (pe_op op_mul pe_int (pv 1)) (pv 1))) pe_int) pe_int))
      (pss_one (ps_ret (pe_op op_mod (pe_op op_mul (pv 2) (pv 2)) pe_int)))), pure_law_mix h⟩
def pr_law_cell_at (K : PySem.W.Frag) (v0 v1 : V) (H : Hp) (Q : VK) (_ : XK) : Prop := ∃ (a : Addr) (ns : List Int) (k : Int), v0 = .ref a ∧ v1 = .int k ∧ SqL K H a (ns.map V.int) ∧ 0 ≤ k ∧ ∀ x, Q (.int x) H
def t_law_cell_at (K : PySem.W.Frag) : TS :=
  (tSeq (tIfS (tTest (tOp xLt (tVar 1) (tCB (rLen K) (tCons (tVar 0) tNil)))) (tRet (tOp (rIxL K) (tVar 0) (tVar 1))) tNext)
    (tRet (tC (.int 0))))
theorem pure_law_cell_at {v0 v1 : V} {H : Hp} {Q : VK} {E : XK} (h : pr_law_cell_at K v0 v1 H Q E) : t_law_cell_at K ⟨fun _ H' => Q .non H', Q, fun _ _ => False, fun _ _ => False⟩ [some v0, some v1] H := by
  obtain ⟨a, ns, k, rfl, rfl, ha, k0, q⟩ := h
  unfold t_law_cell_at
  wtm_at "s"
  refine k_it (fun c => ?_) (fun c => ?_)
  · wtm_at "s"
    refine k_ixI ha k0 c ?_
    exact q _
  · wtm_at "s"
    exact q _
abbrev sp_law_cell_at (K : PySem.W.Frag) : Sp := fun vs H Q E => ∃ v0 v1, vs = [v0, v1] ∧ pr_law_cell_at K v0 v1 H Q E
theorem ok_law_cell_at (T : Txt K mg A) : FnOk P w K mg base CX0 1 A.a_law_cell_at A.d_law_cell_at ["_law_script", "_law_k"] (sp_law_cell_at K) := by
  refine T.F_law_cell_at.ok sc_law_cell_at (fun vs H Q E h => by obtain ⟨v0, v1, rfl, _⟩ := h; rfl) (fun cdv A0 outer s H vs Q E hr h => ?_)
  obtain ⟨v0, v1, rfl, h⟩ := h
  exact ⟨t_law_cell_at K, (pss_cons (ps_if (pt_cmpR op_lt (pv 1) (pe_callB q_len (by rfl) T.z_len (by decide +kernel) (pa_cons (pv 0) pa_nil)) (nomark _)) (pss_one (ps_ret (pe_ix ix_list (pv 0) (pv 1) (fun _ _ => rfl)))) pss_nil)
      (pss_one (ps_ret pe_int))), pure_law_cell_at h⟩
def pr_law_left (K : PySem.W.Frag) (v0 v1 : V) (H : Hp) (Q : VK) (_ : XK) : Prop := ∃ (a : Addr) (ns : List Int) (k : Int), v0 = .ref a ∧ v1 = .int k ∧ SqL K H a (ns.map V.int) ∧ 0 ≤ k ∧ ∀ p H', H p = none → Same H H' → Le H' p 0 → Q (.ref p) H'
def t_law_left (K : PySem.W.Frag) : TS :=
  (tSeq (tAsg (tCall (sp_law_cell_at K) [] E0 (tCons (tVar 0) (tCons (tVar 1) tNil))) (gName 2))
    (tSeq (tIfS (tTest (tOp xLt (tVar 2) (tOp xPow (tC (.int 10)) (tC (.int 18))))) (tRet (tLst (tCons (tOp xMod (tVar 2) (tC (.int 2147483629))) (tCons (tC (.int 0)) (tCons (tC (.int 0)) tNil))))) tNext)
    (tRet (tLst (tCons (tOp xSub (tVar 2) (tOp xPow (tC (.int 10)) (tC (.int 18)))) (tCons (tC (.int 1)) (tCons (tC (.int 0)) tNil)))))))
theorem pure_law_left {v0 v1 : V} {H : Hp} {Q : VK} {E : XK} (h : pr_law_left K v0 v1 H Q E) : t_law_left K ⟨fun _ H' => Q .non H', Q, fun _ _ => False, fun _ _ => False⟩ [some v0, some v1, none] H := by
  obtain ⟨a, ns, k, rfl, rfl, ha, k0, q⟩ := h
  unfold t_law_left
  wtm_at "s"
  refine ⟨_, _, rfl, a, ns, k, rfl, rfl, ha, k0, fun x => ?_⟩
  wtm_at "s"
  refine k_it (fun c => ?_) (fun c => ?_)
  · wtm_at "s"
    refine ⟨sz (by simp), fun p np => ?_⟩
    exact q p _ np (same_new np) ⟨⟨_, _, upd_same, fun _ => ⟨Int.emod_nonneg _ (by decide), Int.emod_lt_of_pos _ (by decide)⟩⟩, by decide⟩
  · wtm_at "s"
    refine ⟨sz (by simp), fun p np => ?_⟩
    exact q p _ np (same_new np) ⟨⟨_, _, upd_same, fun z => absurd z (by decide)⟩, by decide⟩
abbrev sp_law_left (K : PySem.W.Frag) : Sp := fun vs H Q E => ∃ v0 v1, vs = [v0, v1] ∧ pr_law_left K v0 v1 H Q E
theorem ok_law_left (T : Txt K mg A) : FnOk P w K mg base CX0 2 A.a_law_left A.d_law_left ["_law_script", "_law_k"] (sp_law_left K) := by
  refine T.F_law_left.ok sc_law_left (fun vs H Q E h => by obtain ⟨v0, v1, rfl, _⟩ := h; rfl) (fun cdv A0 outer s H vs Q E hr h => ?_)
  obtain ⟨v0, v1, rfl, h⟩ := h
  exact ⟨t_law_left K, (pss_cons (ps_set (i := 2) sc_law_left.nd rfl (Or.inl rfl) (pe_call (ok_law_cell_at T) (hr.mono (by decide)) (by rfl) T.g_law_cell_at T.F_law_cell_at.kp T.b_law_cell_at .nil pass0 (pa_cons (pv 0) (pa_cons (pv 1) pa_nil))))
      (pss_cons (ps_if (pt_cmpR op_lt (pv 2) (pe_op op_pow pe_int pe_int) (nomark _)) (pss_one (ps_ret (pe_lst (pa_cons (pe_op op_mod (pv 2) pe_int) (pa_cons pe_int (pa_cons pe_int pa_nil)))))) pss_nil)
      (pss_one (ps_ret (pe_lst (pa_cons (pe_op op_sub (pv 2) (pe_op op_pow pe_int pe_int)) (pa_cons pe_int (pa_cons pe_int pa_nil)))))))), pure_law_left h⟩
def pr_law_draw (K : PySem.W.Frag) (v0 v1 : V) (H : Hp) (Q : VK) (_ : XK) : Prop := ∃ (pu : Addr) (k m : Int), v0 = .ref pu ∧ v1 = .int m ∧ Le H pu k ∧ k < 1000000 ∧ 0 < m ∧ m < 2 ^ 200 ∧ ∀ r H', 0 ≤ r → r < m → Le H' pu (k + 1) → Same (hid [pu] H) (hid [pu] H') → Q (.int r) H'
def t_law_draw (K : PySem.W.Frag) : TS :=
  (tSeq (tAsg (tOp xAdd (tOp (rIxL K) (tVar 0) (tC (.int 2))) (tC (.int 1))) (gSub (tVar 0) (tC (.int 2)) rSetL))
    (tSeq (tIfS (tTest (tOp rEq (tOp (rIxL K) (tVar 0) (tC (.int 1))) (tC (.int 0)))) (tSeq (tAsg (tCall (sp_law_mix K) [] E0 (tCons (tOp (rIxL K) (tVar 0) (tC (.int 0))) (tCons (tOp (rIxL K) (tVar 0) (tC (.int 2))) tNil))) (gName 2))
    (tSeq (tIfS (tTest (tOp xGt (tVar 1) (tOp xPow (tC (.int 10)) (tC (.int 9))))) (tRet (tOp xMod (tOp xMul (tVar 2) (tOp xAdd (tOp xPow (tCall (sp_law_mix K) [] E0 (tCons (tOp (rIxL K) (tVar 0) (tC (.int 0))) (tCons (tOp xAdd (tOp (rIxL K) (tVar 0) (tC (.int 2))) (tC (.int 500))) tNil))) (tC (.int 3))) (tC (.int 1)))) (tVar 1))) tNext)
    (tRet (tOp xMod (tOp xMod (tOp xMul (tVar 2) (tOp xAdd (tVar 2) (tC (.int 2)))) (tC (.int 2147483579))) (tVar 1))))) tNext)
    (tSeq (tAsg (tOp xMod (tOp (rIxL K) (tVar 0) (tC (.int 0))) (tVar 1)) (gName 3))
    (tSeq (tAsg (tOp xDivW (tOp (rIxL K) (tVar 0) (tC (.int 0))) (tVar 1)) (gSub (tVar 0) (tC (.int 0)) rSetL))
    (tRet (tVar 3))))))
theorem pure_law_draw {v0 v1 : V} {H : Hp} {Q : VK} {E : XK} (h : pr_law_draw K v0 v1 H Q E) : t_law_draw K ⟨fun _ H' => Q .non H', Q, fun _ _ => False, fun _ _ => False⟩ [some v0, some v1, none, none] H := by
  obtain ⟨pu, k, m, rfl, rfl, hL, k1, m0, m1, q⟩ := h
  obtain ⟨⟨x, f, hp, hx⟩, k0⟩ := hL
  unfold t_law_draw
  wtm_at "s"
  refine k_ixL (sl hp) rfl ?_
  wtm_at "s"
  refine k_setL hp (j := 2) rfl ?_
  have e1 : upd H pu (.lst [.int x, .int f, .int (k + 1)]) pu = some (.lst [.int x, .int f, .int (k + 1)]) := upd_same
  have S1 : Same (hid [pu] H) (hid [pu] (upd H pu (.lst [.int x, .int f, .int (k + 1)]))) := same_hid_upd (Same.refl _) (by simp)
  rw [show [V.int x, V.int f, V.int k].set 2 (V.int (k + 1)) = [.int x, .int f, .int (k + 1)] from rfl]
  generalize upd H pu (.lst [.int x, .int f, .int (k + 1)]) = H1 at e1 S1 ⊢
  wtm_at "s"
  refine k_ixL (sl e1) rfl ?_
  wtm_at "s"
  refine k_it (fun c => ?_) (fun c => ?_)
  · obtain ⟨x0, x1⟩ := hx c
    have L1 : Le H1 pu (k + 1) := ⟨⟨x, f, e1, hx⟩, by omega⟩
    wtm_at "s"
    refine k_ixL (sl e1) rfl ?_
    wtm_at "s"
    refine k_ixL (sl e1) rfl ?_
    wtm_at "s"
    refine ⟨_, _, rfl, x, k + 1, rfl, rfl, x0, x1, by omega, by omega, fun r r0 r1 => ?_⟩
    wtm_at "s"
    refine k_it (fun c2 => ?_) (fun c2 => ?_)
    · wtm_at "s"
      refine k_ixL (sl e1) rfl ?_
      wtm_at "s"
      refine k_ixL (sl e1) rfl ?_
      wtm_at "s"
      refine ⟨_, _, rfl, x, k + 1 + 500, rfl, rfl, x0, x1, by omega, by omega, fun r2 r20 r21 => ?_⟩
      wtm_at "s"
      refine k_pow ⟨by decide, by decide, by omega⟩ ?_
      wtm_at "s"
      exact q _ _ (Int.emod_nonneg _ (by omega)) (Int.emod_lt_of_pos _ m0) L1 S1
    · wtm_at "s"
      exact q _ _ (Int.emod_nonneg _ (by omega)) (Int.emod_lt_of_pos _ m0) L1 S1
  · wtm_at "s"
    refine k_ixL (sl e1) rfl ?_
    wtm_at "s"
    refine k_ixL (sl e1) rfl ?_
    wtm_at "s"
    refine k_divW (wide_div m0 (b := 201) (by omega) (by decide) (by decide)) ?_
    wtm_at "s"
    refine k_setL e1 (j := 0) rfl ?_
    wtm_at "s"
    exact q _ _ (Int.emod_nonneg _ (by omega)) (Int.emod_lt_of_pos _ m0) ⟨⟨x / m, f, upd_same, fun z => absurd z c⟩, by omega⟩ (same_hid_upd S1 (by simp))
abbrev sp_law_draw (K : PySem.W.Frag) : Sp := fun vs H Q E => ∃ v0 v1, vs = [v0, v1] ∧ pr_law_draw K v0 v1 H Q E
theorem ok_law_draw (T : Txt K mg A) : FnOk P w K mg base CX0 2 A.a_law_draw A.d_law_draw ["_law_left_here", "_law_base"] (sp_law_draw K) := by
  refine T.F_law_draw.ok sc_law_draw (fun vs H Q E h => by obtain ⟨v0, v1, rfl, _⟩ := h; rfl) (fun cdv A0 outer s H vs Q E hr h => ?_)
  obtain ⟨v0, v1, rfl, h⟩ := h
  exact ⟨t_law_draw K, (pss_cons (ps_asg (pe_op op_add (pe_ix ix_list (pv 0) pe_int (fun _ _ => rfl)) pe_int) (pg_sub (pv 0) pe_int set_list))
      (pss_cons (ps_if (pt_cmpR op_eq (pe_ix ix_list (pv 0) pe_int (fun _ _ => rfl)) pe_int (nomark _)) (pss_cons (ps_set (i := 2) sc_law_draw.nd rfl (Or.inl rfl) (pe_call (ok_law_mix T) (hr.mono (by decide)) (by rfl) T.g_law_mix T.F_law_mix.kp T.b_law_mix .nil pass0 (pa_cons (pe_ix ix_list (pv 0) pe_int (fun _ _ => rfl)) (pa_cons (pe_ix ix_list (pv 0) pe_int (fun _ _ => rfl)) pa_nil))))
      (pss_cons (ps_if (pt_cmpR op_gt (pv 1) (pe_op op_pow pe_int pe_int) (nomark _)) (pss_one (ps_ret (pe_op op_mod (pe_op op_mul (pv 2) (pe_op op_add (pe_op op_pow (pe_call (ok_law_mix T) (hr.mono (by decide)) (by rfl) T.g_law_mix T.F_law_mix.kp T.b_law_mix .nil pass0 (pa_cons (pe_ix ix_list (pv 0) pe_int (fun _ _ => rfl)) (pa_cons (pe_op op_add (pe_ix ix_list (pv 0) pe_int (fun _ _ => rfl)) pe_int) pa_nil))) pe_int) pe_int)) (pv 1)))) pss_nil)
      (pss_one (ps_ret (pe_op op_mod (pe_op op_mod (pe_op op_mul (pv 2) (pe_op op_add (pv 2) pe_int)) pe_int) (pv 1)))))) pss_nil)
      (pss_cons (ps_set (i := 3) sc_law_draw.nd rfl (Or.inl rfl) (pe_op op_mod (pe_ix ix_list (pv 0) pe_int (fun _ _ => rfl)) (pv 1)))
      (pss_cons (ps_asg (pe_op op_fdivW (pe_ix ix_list (pv 0) pe_int (fun _ _ => rfl)) (pv 1)) (pg_sub (pv 0) pe_int set_list))
      (pss_one (ps_ret (pv 3))))))), pure_law_draw h⟩
def pr_law_way (K : PySem.W.Frag) (v0 v1 : V) (H : Hp) (Q : VK) (_ : XK) : Prop := ∃ (pu : Addr) (k m : Int), v0 = .ref pu ∧ v1 = .int m ∧ Le H pu k ∧ k < 900000 ∧ 2 ≤ m ∧ m < 2 ^ 100 ∧
  ∀ p a b H', H p = none → p ∉ [pu] → Le H' pu (k + 2) → Same (hid [pu] H) (hid [pu] H') → H' p = some (.tup [.int a, .int b]) → a ≠ b → 0 ≤ a → a < m → 0 ≤ b → b < m → Q (.ref p) H'
def t_law_way (K : PySem.W.Frag) : TS :=
  (tSeq (tAsg (tCall (sp_law_draw K) [] E0 (tCons (tVar 0) (tCons (tVar 1) tNil))) (gName 2))
    (tSeq (tAsg (tCall (sp_law_draw K) [] E0 (tCons (tVar 0) (tCons (tOp xSub (tVar 1) (tC (.int 1))) tNil))) (gName 3))
    (tRet (tTup (tCons (tVar 2) (tCons (tOp xAdd (tVar 3) (tCB rIntOf (tCons (tOp xGe (tVar 3) (tVar 2)) tNil))) tNil))))))
theorem pure_law_way {v0 v1 : V} {H : Hp} {Q : VK} {E : XK} (h : pr_law_way K v0 v1 H Q E) : t_law_way K ⟨fun _ H' => Q .non H', Q, fun _ _ => False, fun _ _ => False⟩ [some v0, some v1, none, none] H := by
  obtain ⟨pu, k, m, rfl, rfl, hL, k1, m0, m1, q⟩ := h
  unfold t_law_way
  wtm_at "s"
  refine ⟨_, _, rfl, pu, k, m, rfl, rfl, hL, by omega, by omega, by omega, fun r H1 r0 r1 L1 S1 => ?_⟩
  wtm_at "s"
  refine ⟨_, _, rfl, pu, k + 1, m - 1, rfl, rfl, L1, by omega, by omega, by omega, fun r2 H2 r20 r21 L2 S2 => ?_⟩
  wtm_at "s"
  refine ⟨sz (by simp), fun p np => ?_⟩
  have np' := L2.fresh np
  have S3 := S1.trans S2
  have e : (if decide (r ≤ r2) = true then (1 : Int) else 0) = if r ≤ r2 then 1 else 0 := by simp
  refine q p r _ _ (fresh_hid S3 np np') np' (show Le _ pu (k + 2) from (show k + 1 + 1 = k + 2 by omega) ▸ L2.upd np') (S3.trans (same_hid_new np)) upd_same ?_ r0 r1 ?_ ?_
  all_goals rw [e]; split <;> omega
abbrev sp_law_way (K : PySem.W.Frag) : Sp := fun vs H Q E => ∃ v0 v1, vs = [v0, v1] ∧ pr_law_way K v0 v1 H Q E
theorem ok_law_way (T : Txt K mg A) : FnOk P w K mg base CX0 3 A.a_law_way A.d_law_way ["_law_left_here", "_law_many"] (sp_law_way K) := by
  refine T.F_law_way.ok sc_law_way (fun vs H Q E h => by obtain ⟨v0, v1, rfl, _⟩ := h; rfl) (fun cdv A0 outer s H vs Q E hr h => ?_)
  obtain ⟨v0, v1, rfl, h⟩ := h
  exact ⟨t_law_way K, (pss_cons (ps_set (i := 2) sc_law_way.nd rfl (Or.inl rfl) (pe_call (ok_law_draw T) (hr.mono (by decide)) (by rfl) T.g_law_draw T.F_law_draw.kp T.b_law_draw .nil pass0 (pa_cons (pv 0) (pa_cons (pv 1) pa_nil))))
      (pss_cons (ps_set (i := 3) sc_law_way.nd rfl (Or.inl rfl) (pe_call (ok_law_draw T) (hr.mono (by decide)) (by rfl) T.g_law_draw T.F_law_draw.kp T.b_law_draw .nil pass0 (pa_cons (pv 0) (pa_cons (pe_op op_sub (pv 1) pe_int) pa_nil))))
      (pss_one (ps_ret (pe_tup (pa_cons (pv 2) (pa_cons (pe_op op_add (pv 3) (pe_callTy q_intB (by rfl) T.z_int (by decide +kernel) (pa_cons (pe_cmpR op_ge (pv 3) (pv 2) (nomark _)) pa_nil))) pa_nil))))))), pure_law_way h⟩


/-- draw(left, [..][draw(left, n)]) -/
theorem rd_pick {σ : L2.St} {i : Nat} {pu : Addr} {kk : Int} {cs : List Int} {ta : TA} {hi : Int} {H : Hp} {Q : VK} (hv : σ[i]? = some (some (.ref pu))) (L : Le H pu kk) (hk : kk < 900000)
    (hta : ∀ (H : Hp) (R : List V → Hp → Prop), R (cs.map V.int) H → ta σ H R) (hc : cs.length ≤ 100) (c0 : 0 < cs.length) (hb : ∀ c ∈ cs, 1 ≤ c ∧ c ≤ hi) (hh : hi < 2 ^ 100)
    (q : ∀ d H', 0 ≤ d → d < hi → Le H' pu (kk + 2) → Same (hid [pu] H) (hid [pu] H') → Q (.int d) H') :
    tCall (sp_law_draw K) [] E0 (tCons (tVar i) (tCons (tOp (rIxL K) (tLst ta) (tCall (sp_law_draw K) [] E0 (tCons (tVar i) (tCons (tC (.int cs.length)) tNil)))) tNil)) σ H Q := by
  refine k_call (k_cons (k_var hv (k_cons (k_op (k_lst (hta _ _ ⟨sz (by rw [List.length_map]; omega), fun dl ndl => ?_⟩))))))
  refine k_call (k_cons (k_var hv (k_cons (k_c (k_nil ?_)))))
  have ndl' := L.fresh ndl
  refine ⟨_, _, rfl, pu, kk, cs.length, rfl, rfl, L.upd ndl', by omega, by omega, by omega, fun r H2 r0 r1 L2 S2 => ?_⟩
  refine k_ixI (sl (keeps S2 upd_same ndl')) r0 r1 ?_
  have hm := hb _ (getD_memI r0 r1)
  refine k_nil ?_
  refine ⟨_, _, rfl, pu, kk + 1, _, rfl, rfl, L2, by omega, by omega, by omega, fun d H3 d0 d1 L3 S3 => ?_⟩
  refine q d H3 d0 (by omega) ?_ ((same_hid_new ndl).trans (S2.trans S3))
  rw [show kk + 2 = kk + 1 + 1 by omega]; exact L3
def pr_law_line (K : PySem.W.Frag) (v0 : V) (H : Hp) (Q : VK) (_ : XK) : Prop := ∃ (pu : Addr) (k : Int), v0 = .ref pu ∧ Le H pu k ∧ k < 900000 ∧
  ∀ p n H', H p = none → p ∉ [pu] → Le H' pu (k + 2) → Same (hid [pu] H) (hid [pu] H') → hid [pu] H' p = some (.tup [.str (Str.ofString "line"), .int n]) → 2 ≤ n → n ≤ 60 → Q (.ref p) H'
def t_law_line (K : PySem.W.Frag) : TS :=
  (tRet (tTup (tCons (tC (.str (Str.ofString "line"))) (tCons (tOp xAdd (tC (.int 2)) (tCall (sp_law_draw K) [] E0 (tCons (tVar 0) (tCons (tOp (rIxL K) (tLst (tCons (tC (.int 5)) (tCons (tC (.int 12)) (tCons (tC (.int 59)) tNil)))) (tCall (sp_law_draw K) [] E0 (tCons (tVar 0) (tCons (tC (.int 3)) tNil)))) tNil)))) tNil))))
theorem pure_law_line {v0 : V} {H : Hp} {Q : VK} {E : XK} (h : pr_law_line K v0 H Q E) : t_law_line K ⟨fun _ H' => Q .non H', Q, fun _ _ => False, fun _ _ => False⟩ [some v0] H := by
  obtain ⟨pu, k, rfl, L, hk, q⟩ := h
  unfold t_law_line
  refine k_ret (k_tup (k_cons (k_c (k_cons (k_op (k_c ?_))))))
  refine rd_pick (cs := [5, 12, 59]) (hi := 59) rfl L (by omega) (fun H R h => by wtm_at "s"; exact h) (by decide) (by decide) (by decide) (by decide) (fun d H1 d0 d1 L1 S1 => ?_)
  wtm_at "s"
  exact ⟨sz (by simp), fun p np => q p _ _ (fresh_hid S1 np (L1.fresh np)) (L1.fresh np) (L1.same (same_new np)) (S1.trans (hid_mono (same_new np))) (L1.at np upd_same) (by omega) (by omega)⟩
abbrev sp_law_line (K : PySem.W.Frag) : Sp := fun vs H Q E => ∃ v0, vs = [v0] ∧ pr_law_line K v0 H Q E
theorem ok_law_line (T : Txt K mg A) : FnOk P w K mg base CX0 3 A.a_law_line A.d_law_line ["_law_left_here"] (sp_law_line K) := by
  refine T.F_law_line.ok sc_law_line (fun vs H Q E h => by obtain ⟨v0, rfl, _⟩ := h; rfl) (fun cdv A0 outer s H vs Q E hr h => ?_)
  obtain ⟨v0, rfl, h⟩ := h
  exact ⟨t_law_line K, (pss_one (ps_ret (pe_tup (pa_cons pe_str (pa_cons (pe_op op_add pe_int (pe_call (ok_law_draw T) (hr.mono (by decide)) (by rfl) T.g_law_draw T.F_law_draw.kp T.b_law_draw .nil pass0 (pa_cons (pv 0) (pa_cons (pe_ix ix_list (pe_lst (pa_cons pe_int (pa_cons pe_int (pa_cons pe_int pa_nil)))) (pe_call (ok_law_draw T) (hr.mono (by decide)) (by rfl) T.g_law_draw T.F_law_draw.kp T.b_law_draw .nil pass0 (pa_cons (pv 0) (pa_cons pe_int pa_nil))) (fun _ _ => rfl)) pa_nil)))) pa_nil))))), pure_law_line h⟩


def lvHues (i : Nat) : List Int := if i = 1 then [0] else [3 * (i : Int) - 5, 3 * (i : Int) - 4, 3 * (i : Int) - 3]
def pr_hues_of (K : PySem.W.Frag) (v0 : V) (H : Hp) (Q : VK) (_ : XK) : Prop := ∃ i : Nat, v0 = .int i ∧ 1 ≤ i ∧ ∀ p H', H p = none → Same H H' → H' p = some (.lst (List.map V.int (lvHues i))) → Q (.ref p) H'
def t_hues_of (K : PySem.W.Frag) : TS :=
  (tSeq (tIfS (tTest (tOp rEq (tVar 0) (tC (.int 1)))) (tRet (tLst (tCons (tC (.int 0)) tNil))) tNext)
    (tRet (tLst (tCons (tOp xSub (tOp xMul (tC (.int 3)) (tVar 0)) (tC (.int 5))) (tCons (tOp xSub (tOp xMul (tC (.int 3)) (tVar 0)) (tC (.int 4))) (tCons (tOp xSub (tOp xMul (tC (.int 3)) (tVar 0)) (tC (.int 3))) tNil))))))
theorem pure_hues_of {v0 : V} {H : Hp} {Q : VK} {E : XK} (h : pr_hues_of K v0 H Q E) : t_hues_of K ⟨fun _ H' => Q .non H', Q, fun _ _ => False, fun _ _ => False⟩ [some v0] H := by
  obtain ⟨i, rfl, i1, q⟩ := h
  unfold t_hues_of
  wtm_at "s"
  refine k_it (fun c => ?_) (fun c => ?_)
  · wtm_at "s"
    refine kL (by simp) (fun p H1 np s1 e1 => ?_)
    refine q p H1 np s1 ?_
    rw [e1]; unfold lvHues; rw [if_pos (by omega)]; rfl
  · wtm_at "s"
    refine kL (by simp) (fun p H1 np s1 e1 => ?_)
    refine q p H1 np s1 ?_
    rw [e1]; unfold lvHues; rw [if_neg (by omega)]; rfl
abbrev sp_hues_of (K : PySem.W.Frag) : Sp := fun vs H Q E => ∃ v0, vs = [v0] ∧ pr_hues_of K v0 H Q E
theorem ok_hues_of (T : Txt K mg A) : FnOk P w K mg base CX0 1 A.a_hues_of A.d_hues_of ["level"] (sp_hues_of K) := by
  refine T.F_hues_of.ok sc_hues_of (fun vs H Q E h => by obtain ⟨v0, rfl, _⟩ := h; rfl) (fun cdv A0 outer s H vs Q E hr h => ?_)
  obtain ⟨v0, rfl, h⟩ := h
  exact ⟨t_hues_of K, (pss_cons (ps_if (pt_cmpR op_eq (pv 0) pe_int (nomark _)) (pss_one (ps_ret (pe_lst (pa_cons pe_int pa_nil)))) pss_nil)
      (pss_one (ps_ret (pe_lst (pa_cons (pe_op op_sub (pe_op op_mul pe_int (pv 0)) pe_int) (pa_cons (pe_op op_sub (pe_op op_mul pe_int (pv 0)) pe_int) (pa_cons (pe_op op_sub (pe_op op_mul pe_int (pv 0)) pe_int) pa_nil))))))), pure_hues_of h⟩
/-- a row of ties lo .. hi -/
def tiesI (w : Int × Int) : List Int := (List.range (w.2 - w.1 + 1).toNat).map fun k : Nat => w.1 + (k : Int)
theorem tiesI_len (w : Int × Int) : (tiesI w).length = (w.2 - w.1 + 1).toNat := by unfold tiesI; simp
theorem tiesI_get {w : Int × Int} {k : Nat} (h : (k : Int) ≤ w.2 - w.1) : (tiesI w)[k]? = some (w.1 + (k : Int)) := by
  unfold tiesI
  rw [List.getElem?_map, List.getElem?_range (by omega)]; rfl
theorem tiesI_mem {w : Int × Int} {t : Int} : t ∈ tiesI w ↔ w.1 ≤ t ∧ t ≤ w.2 := by
  unfold tiesI
  rw [List.mem_map]
  constructor
  · rintro ⟨k, hk, rfl⟩
    have := List.mem_range.mp hk
    omega
  · rintro ⟨h1, h2⟩
    exact ⟨(t - w.1).toNat, List.mem_range.mpr (by omega), by omega⟩
theorem at_first {w : Int × Int} (h : w.1 ≤ w.2) : atI ((tiesI w).map V.int) 0 = some (.int w.1) := by
  have := at_int (ns := tiesI w) (i := 0) (by decide) (by rw [tiesI_len]; omega)
  rw [this]
  have g : (tiesI w)[(0 : Nat)]? = some (w.1 + ((0 : Nat) : Int)) := tiesI_get (by omega)
  show some (V.int ((tiesI w).getD 0 0)) = _
  rw [List.getD_eq_getElem?_getD, g]; simp
theorem at_final {w : Int × Int} (h : w.1 ≤ w.2) : atI ((tiesI w).map V.int) (-1) = some (.int w.2) := by
  have g : (tiesI w)[(w.2 - w.1).toNat]? = some (w.1 + ((w.2 - w.1).toNat : Int)) := tiesI_get (by omega)
  have e : w.1 + ((w.2 - w.1).toNat : Int) = w.2 := by omega
  rw [e] at g
  unfold atI
  rw [ixN_last (by rw [List.length_map, tiesI_len]; omega)]
  show ((tiesI w).map V.int)[((tiesI w).map V.int).length - 1]? = _
  rw [List.length_map, tiesI_len, show (w.2 - w.1 + 1).toNat - 1 = (w.2 - w.1).toNat by omega, List.getElem?_map, g]; rfl
def pr_meet (K : PySem.W.Frag) (v0 v1 : V) (H : Hp) (Q : VK) (_ : XK) : Prop := ∃ (p q : Addr) (w v : Int × Int), v0 = .ref p ∧ v1 = .ref q ∧ SqL K H p ((tiesI w).map V.int) ∧ SqL K H q ((tiesI v).map V.int) ∧ w.1 ≤ w.2 ∧ v.1 ≤ v.2 ∧ Q (.bl (decide (max w.1 v.1 ≤ min w.2 v.2))) H
def t_meet (K : PySem.W.Frag) : TS :=
  (tRet (tOp xLe (tCB rMax2 (tCons (tOp (rIxL K) (tVar 0) (tC (.int 0))) (tCons (tOp (rIxL K) (tVar 1) (tC (.int 0))) tNil))) (tCB rMin2 (tCons (tOp (rIxL K) (tVar 0) (tUn xNeg (tC (.int 1)))) (tCons (tOp (rIxL K) (tVar 1) (tUn xNeg (tC (.int 1)))) tNil)))))
theorem pure_meet {v0 v1 : V} {H : Hp} {Q : VK} {E : XK} (h : pr_meet K v0 v1 H Q E) : t_meet K ⟨fun _ H' => Q .non H', Q, fun _ _ => False, fun _ _ => False⟩ [some v0, some v1] H := by
  obtain ⟨p, q, w, v, rfl, rfl, hp, hq, hw, hv, k⟩ := h
  unfold t_meet
  wtm_at "s"
  refine k_ixL hp (at_first hw) ?_
  wtm_at "s"
  refine k_ixL hq (at_first hv) ?_
  wtm_at "s"
  refine k_ixL hp (at_final hw) ?_
  wtm_at "s"
  refine k_ixL hq (at_final hv) ?_
  wtm_at "s"
  have e : decide ((if v.1 > w.1 then v.1 else w.1) ≤ (if v.2 < w.2 then v.2 else w.2)) = decide (max w.1 v.1 ≤ min w.2 v.2) := by
    refine decide_eq_decide.mpr ?_
    split <;> split <;> omega
  rw [e]
  exact k
abbrev sp_meet (K : PySem.W.Frag) : Sp := fun vs H Q E => ∃ v0 v1, vs = [v0, v1] ∧ pr_meet K v0 v1 H Q E
theorem ok_meet (T : Txt K mg A) : FnOk P w K mg base CX0 1 A.a_meet A.d_meet ["one", "other"] (sp_meet K) := by
  refine T.F_meet.ok sc_meet (fun vs H Q E h => by obtain ⟨v0, v1, rfl, _⟩ := h; rfl) (fun cdv A0 outer s H vs Q E hr h => ?_)
  obtain ⟨v0, v1, rfl, h⟩ := h
  exact ⟨t_meet K, (pss_one (ps_ret (pe_cmpR op_le (pe_callB (q_max2 (by rfl)) (by rfl) T.z_max (by decide +kernel) (pa_cons (pe_ix ix_list (pv 0) pe_int (fun _ _ => rfl)) (pa_cons (pe_ix ix_list (pv 1) pe_int (fun _ _ => rfl)) pa_nil))) (pe_callB (q_min2 (by rfl)) (by rfl) T.z_min (by decide +kernel) (pa_cons (pe_ix ix_list (pv 0) (pe_un un_neg pe_int) (fun _ _ => rfl)) (pa_cons (pe_ix ix_list (pv 1) (pe_un un_neg pe_int) (fun _ _ => rfl)) pa_nil))) (nomark _)))), pure_meet h⟩


/-- the fields of a Giver -/
abbrev gvF (nt cm ln gv lv ow up : Addr) : List (Str × V) := [(Str.ofString "net", .ref nt), (Str.ofString "come", .ref cm), (Str.ofString "lain", .ref ln), (Str.ofString "given", .ref gv), (Str.ofString "level", .ref lv), (Str.ofString "own", .ref ow), (Str.ofString "upto", .ref up)]
/-- a field is written: what is new stays, the instance alone is changed -/
theorem fld_step {H H' : Hp} {a p : Addr} {o x0 : HO} (x : HO) (ea : H a = some x0) (np : H p = none) (s : Same H H') (e : H' p = some o) : Same (hid [a] H) (hid [a] (upd H' a x)) ∧ hid [a] (upd H' a x) p = some o ∧ upd H' a x a = some x := by
  have pa : p ≠ a := fun z => by rw [z, ea] at np; cases np
  refine ⟨by rw [hid_upd (by simp)]; exact hid_mono s, ?_, upd_same⟩
  rw [hid_upd (by simp), hid_ne (by simpa using pa)]; exact e
theorem rep0g (n : Nat) : (List.replicate n [V.int 0]).flatten = List.map V.int (List.replicate n 0) := by
  induction n with
  | zero => rfl
  | succ n ih => rw [List.replicate_succ, List.flatten_cons, ih]; rfl
theorem putF_len (f : Str) (v : V) : ∀ fs : List (Str × V), (putF f v fs).length ≤ fs.length + 1
  | [] => Nat.le_refl _
  | (g, x) :: r => by
    unfold putF
    split
    · simp
    · have := putF_len f v r
      simp only [List.length_cons]
      omega
theorem free_back {H G : Hp} {a p : Addr} {x : HO} (S : Same (hid [a] H) (hid [a] G)) (ea : G a = some x) (n : G p = none) : H p = none := by
  have pa : p ∉ [a] := by
    intro z
    rw [List.mem_singleton.mp z, ea] at n
    cases n
  have := S.free (show hid [a] G p = none by rw [hid_ne pa]; exact n)
  rwa [hid_ne pa] at this
theorem ne_new {H : Hp} {p q : Addr} {o : HO} (hp : H p = some o) (hq : H q = none) : p ≠ q := fun e => by rw [e, hq] at hp; cases hp
def pr_Giver_init (K : PySem.W.Frag) (A : Ad) (v0 v1 : V) (H : Hp) (Q : VK) (E : XK) : Prop := (∃ N : Net, Dp K H v1 N.d ∧ N.ok ∧ N.kind ≠ Str.ofString "line" ∧ E (.ref A.c_OtherNet) none H) ∨ ∃ (a dx : Addr) (n : Int), v0 = .ref a ∧ H a = some (.ins A.c_Giver dx []) ∧ Dp K (hid [a] H) v1 (Net.line n).d ∧ (Net.line n).ok ∧
  ∀ (nt cm ln gv lv ow up : Addr) (rs : List Addr) (H' : Hp), Same (hid [a] H) (hid [a] H') → H' a = some (.ins A.c_Giver dx (gvF nt cm ln gv lv ow up)) → H' nt = some (.tup [.str (Str.ofString "line"), .int n]) → H' cm = some (.lst []) → H' ln = some (.lst []) → H' gv = some (.lst []) → H' lv = some (.lst []) → H' ow = some (.lst []) →
    H' up = some (.lst (rs.map V.ref)) → rs.length = (n - 1).toNat → (∀ (j : Nat) r, rs[j]? = some r → H' r = some (.lst (List.map V.int (List.replicate 42 0)))) →
    (up :: (rs ++ [ow, lv, gv, ln, cm, nt, a])).Nodup → (∀ r ∈ up :: (rs ++ [ow, lv, gv, ln, cm, nt]), H r = none) → Q .non H'
def t_Giver_init (K : PySem.W.Frag) (A : Ad) (E : XK) : TS :=
  (tSeq (tDrop (tCall (sp_must_be_kind K A) [] E (tCons (tVar 1) (tCons (tC (.str (Str.ofString "line"))) tNil))))
    (tSeq (sFld K (tVar 0) (tTup (tCons (tOp (rIxT K) (tVar 1) (tC (.int 0))) (tCons (tOp (rIxT K) (tVar 1) (tC (.int 1))) tNil))) "net")
    (tSeq (sFld K (tVar 0) (tLst tNil) "come")
    (tSeq (sFld K (tVar 0) (tLst tNil) "lain")
    (tSeq (sFld K (tVar 0) (tLst tNil) "given")
    (tSeq (sFld K (tVar 0) (tLst tNil) "level")
    (tSeq (sFld K (tVar 0) (tLst tNil) "own")
    (sFld K (tVar 0) (tLc (iRng1 (tCons (tOp xSub (tOp (rIxT K) (tVar 1) (tC (.int 1))) (tC (.int 1))) tNil)) (gName 2) tYes (tOp rRep (tLst (tCons (tC (.int 0)) tNil)) (tOp xAdd (tC (.int 40)) (tC (.int 2)))) [2]) "upto"))))))))
theorem pure_Giver_init (T : Txt K mg A) {v0 v1 : V} {H : Hp} {Q : VK} {E : XK} (h : pr_Giver_init K A v0 v1 H Q E) : t_Giver_init K A E ⟨fun _ H' => Q .non H', Q, fun _ _ => False, fun _ _ => False⟩ [some v0, some v1, none] H := by
  rcases h with ⟨N, dn, ok, hk, qe⟩ | ⟨a, dx, n, rfl, ea, dn, ok, q⟩
  · unfold t_Giver_init
    wtm_at "s"
    exact ⟨_, _, rfl, N, _, rfl, dn, ok, .inl ⟨hk, qe⟩⟩
  have dn0 := dp_same (hid_same _ _) dn
  obtain ⟨b, y, rfl, hs, hy⟩ := dp_net dn
  obtain rfl := dp_int hy
  have hs0 := same_seqT (hid_same _ _) hs
  unfold t_Giver_init
  wtm_at "s"
  refine ⟨_, _, rfl, _, _, rfl, dn0, ok, .inr ⟨rfl, ?_⟩⟩
  wtm_at "s"
  refine kT (by simp) (fun nt H1 nnt s1 e1 => ?_)
  wtm_at "s"
  refine k_pF (s1 _ _ ea) T.K_Giver T.N_Giver_net (by decide) ?_
  obtain ⟨S1, e1, ea1⟩ := fld_step (.ins A.c_Giver dx (putF (Str.ofString "net") (.ref nt) [])) ea nnt s1 e1
  generalize upd H1 a (.ins A.c_Giver dx (putF (Str.ofString "net") (.ref nt) [])) = G1 at S1 e1 ea1 ⊢
  have l1 : (putF (Str.ofString "net") (.ref nt) []).length ≤ 1 := putF_len _ _ _
  wtm_at "s"
  refine kL (by simp) (fun cm H2 ncm s2 e2 => ?_)
  wtm_at "s"
  refine k_pF (s2 _ _ ea1) T.K_Giver T.N_Giver_come (by omega) ?_
  obtain ⟨S2, e2, ea2⟩ := fld_step (.ins A.c_Giver dx (putF (Str.ofString "come") (.ref cm) (putF (Str.ofString "net") (.ref nt) []))) ea1 ncm s2 e2
  generalize upd H2 a (.ins A.c_Giver dx (putF (Str.ofString "come") (.ref cm) (putF (Str.ofString "net") (.ref nt) []))) = G2 at S2 e2 ea2 ⊢
  have l2 : (putF (Str.ofString "come") (.ref cm) (putF (Str.ofString "net") (.ref nt) [])).length ≤ 2 := Nat.le_trans (putF_len _ _ _) (Nat.succ_le_succ l1)
  wtm_at "s"
  refine kL (by simp) (fun ln H3 nln s3 e3 => ?_)
  wtm_at "s"
  refine k_pF (s3 _ _ ea2) T.K_Giver T.N_Giver_lain (by omega) ?_
  obtain ⟨S3, e3, ea3⟩ := fld_step (.ins A.c_Giver dx (putF (Str.ofString "lain") (.ref ln) (putF (Str.ofString "come") (.ref cm) (putF (Str.ofString "net") (.ref nt) [])))) ea2 nln s3 e3
  generalize upd H3 a (.ins A.c_Giver dx (putF (Str.ofString "lain") (.ref ln) (putF (Str.ofString "come") (.ref cm) (putF (Str.ofString "net") (.ref nt) [])))) = G3 at S3 e3 ea3 ⊢
  have l3 : (putF (Str.ofString "lain") (.ref ln) (putF (Str.ofString "come") (.ref cm) (putF (Str.ofString "net") (.ref nt) []))).length ≤ 3 := Nat.le_trans (putF_len _ _ _) (Nat.succ_le_succ l2)
  wtm_at "s"
  refine kL (by simp) (fun gv H4 ngv s4 e4 => ?_)
  wtm_at "s"
  refine k_pF (s4 _ _ ea3) T.K_Giver T.N_Giver_given (by omega) ?_
  obtain ⟨S4, e4, ea4⟩ := fld_step (.ins A.c_Giver dx (putF (Str.ofString "given") (.ref gv) (putF (Str.ofString "lain") (.ref ln) (putF (Str.ofString "come") (.ref cm) (putF (Str.ofString "net") (.ref nt) []))))) ea3 ngv s4 e4
  generalize upd H4 a (.ins A.c_Giver dx (putF (Str.ofString "given") (.ref gv) (putF (Str.ofString "lain") (.ref ln) (putF (Str.ofString "come") (.ref cm) (putF (Str.ofString "net") (.ref nt) []))))) = G4 at S4 e4 ea4 ⊢
  have l4 : (putF (Str.ofString "given") (.ref gv) (putF (Str.ofString "lain") (.ref ln) (putF (Str.ofString "come") (.ref cm) (putF (Str.ofString "net") (.ref nt) [])))).length ≤ 4 := Nat.le_trans (putF_len _ _ _) (Nat.succ_le_succ l3)
  wtm_at "s"
  refine kL (by simp) (fun lv H5 nlv s5 e5 => ?_)
  wtm_at "s"
  refine k_pF (s5 _ _ ea4) T.K_Giver T.N_Giver_level (by omega) ?_
  obtain ⟨S5, e5, ea5⟩ := fld_step (.ins A.c_Giver dx (putF (Str.ofString "level") (.ref lv) (putF (Str.ofString "given") (.ref gv) (putF (Str.ofString "lain") (.ref ln) (putF (Str.ofString "come") (.ref cm) (putF (Str.ofString "net") (.ref nt) [])))))) ea4 nlv s5 e5
  generalize upd H5 a (.ins A.c_Giver dx (putF (Str.ofString "level") (.ref lv) (putF (Str.ofString "given") (.ref gv) (putF (Str.ofString "lain") (.ref ln) (putF (Str.ofString "come") (.ref cm) (putF (Str.ofString "net") (.ref nt) [])))))) = G5 at S5 e5 ea5 ⊢
  have l5 : (putF (Str.ofString "level") (.ref lv) (putF (Str.ofString "given") (.ref gv) (putF (Str.ofString "lain") (.ref ln) (putF (Str.ofString "come") (.ref cm) (putF (Str.ofString "net") (.ref nt) []))))).length ≤ 5 := Nat.le_trans (putF_len _ _ _) (Nat.succ_le_succ l4)
  wtm_at "s"
  refine kL (by simp) (fun ow H6 now s6 e6 => ?_)
  wtm_at "s"
  refine k_pF (s6 _ _ ea5) T.K_Giver T.N_Giver_own (by omega) ?_
  obtain ⟨S6, e6, ea6⟩ := fld_step (.ins A.c_Giver dx (putF (Str.ofString "own") (.ref ow) (putF (Str.ofString "level") (.ref lv) (putF (Str.ofString "given") (.ref gv) (putF (Str.ofString "lain") (.ref ln) (putF (Str.ofString "come") (.ref cm) (putF (Str.ofString "net") (.ref nt) []))))))) ea5 now s6 e6
  generalize upd H6 a (.ins A.c_Giver dx (putF (Str.ofString "own") (.ref ow) (putF (Str.ofString "level") (.ref lv) (putF (Str.ofString "given") (.ref gv) (putF (Str.ofString "lain") (.ref ln) (putF (Str.ofString "come") (.ref cm) (putF (Str.ofString "net") (.ref nt) []))))))) = G6 at S6 e6 ea6 ⊢
  have l6 : (putF (Str.ofString "own") (.ref ow) (putF (Str.ofString "level") (.ref lv) (putF (Str.ofString "given") (.ref gv) (putF (Str.ofString "lain") (.ref ln) (putF (Str.ofString "come") (.ref cm) (putF (Str.ofString "net") (.ref nt) [])))))).length ≤ 6 := Nat.le_trans (putF_len _ _ _) (Nat.succ_le_succ l5)
  have hs6 : SqT K G6 b [.str (Net.line n).kind, .int n] := same_seqT ((S1.trans (S2.trans (S3.trans (S4.trans (S5.trans S6))))).trans (hid_same _ _)) hs
  have ok1 : 1 < n ∧ n ≤ 60 := by obtain ⟨z1, z2⟩ := ok; omega
  wtm_at "s"
  refine lc_rowsR (by omega) (fun _ => .lst (List.map V.int (List.replicate 42 0))) ?_ (fun D rs H7 nD s7 eD lr nd dr fr at_ => ?_)
  · intro i H' hi sm R R0 h1
    wtm_at "s"
    refine kL (by simp) (fun z H'' nz sz ez => ?_)
    wtm_at "s"
    refine k_repN ez (by decide) (by decide) (by decide) (fun r H3 nr sr er => ?_)
    refine h1 r H3 (sz.free nr) (sz.trans sr) ?_
    rw [er, rep0g]; rfl
  · wtm_at "s"
    have ne_nt_cm := ne_new (hid_same _ _ _ _ e1) ncm
    have ne_a_cm := ne_new ea1 ncm
    have ne_nt_ln := ne_new (hid_same _ _ _ _ ((S2) _ _ e1)) nln
    have ne_cm_ln := ne_new (hid_same _ _ _ _ e2) nln
    have ne_a_ln := ne_new ea2 nln
    have ne_nt_gv := ne_new (hid_same _ _ _ _ ((S2.trans (S3)) _ _ e1)) ngv
    have ne_cm_gv := ne_new (hid_same _ _ _ _ ((S3) _ _ e2)) ngv
    have ne_ln_gv := ne_new (hid_same _ _ _ _ e3) ngv
    have ne_a_gv := ne_new ea3 ngv
    have ne_nt_lv := ne_new (hid_same _ _ _ _ ((S2.trans (S3.trans (S4))) _ _ e1)) nlv
    have ne_cm_lv := ne_new (hid_same _ _ _ _ ((S3.trans (S4)) _ _ e2)) nlv
    have ne_ln_lv := ne_new (hid_same _ _ _ _ ((S4) _ _ e3)) nlv
    have ne_gv_lv := ne_new (hid_same _ _ _ _ e4) nlv
    have ne_a_lv := ne_new ea4 nlv
    have ne_nt_ow := ne_new (hid_same _ _ _ _ ((S2.trans (S3.trans (S4.trans (S5)))) _ _ e1)) now
    have ne_cm_ow := ne_new (hid_same _ _ _ _ ((S3.trans (S4.trans (S5))) _ _ e2)) now
    have ne_ln_ow := ne_new (hid_same _ _ _ _ ((S4.trans (S5)) _ _ e3)) now
    have ne_gv_ow := ne_new (hid_same _ _ _ _ ((S5) _ _ e4)) now
    have ne_lv_ow := ne_new (hid_same _ _ _ _ e5) now
    have ne_a_ow := ne_new ea5 now
    have ne_a_nt := ne_new ea nnt
    have y1 : G6 nt ≠ none := by rw [hid_same _ _ _ _ ((S2.trans (S3.trans (S4.trans (S5.trans (S6))))) _ _ e1)]; simp
    have y2 : G6 cm ≠ none := by rw [hid_same _ _ _ _ ((S3.trans (S4.trans (S5.trans (S6)))) _ _ e2)]; simp
    have y3 : G6 ln ≠ none := by rw [hid_same _ _ _ _ ((S4.trans (S5.trans (S6))) _ _ e3)]; simp
    have y4 : G6 gv ≠ none := by rw [hid_same _ _ _ _ ((S5.trans (S6)) _ _ e4)]; simp
    have y5 : G6 lv ≠ none := by rw [hid_same _ _ _ _ ((S6) _ _ e5)]; simp
    have y6 : G6 ow ≠ none := by rw [hid_same _ _ _ _ e6]; simp
    have y0 : G6 a ≠ none := by rw [ea6]; simp
    have f2 : H cm = none := free_back (S1) ea1 ncm
    have f3 : H ln = none := free_back (S1.trans (S2)) ea2 nln
    have f4 : H gv = none := free_back (S1.trans (S2.trans (S3))) ea3 ngv
    have f5 : H lv = none := free_back (S1.trans (S2.trans (S3.trans (S4)))) ea4 nlv
    have f6 : H ow = none := free_back (S1.trans (S2.trans (S3.trans (S4.trans (S5))))) ea5 now
    have f7 : ∀ x, G6 x = none → H x = none := fun x hx => free_back (S1.trans (S2.trans (S3.trans (S4.trans (S5.trans (S6)))))) ea6 hx
    have all6 : ∀ x ∈ [ow, lv, gv, ln, cm, nt, a], G6 x ≠ none := by
      intro x hx
      simp only [List.mem_cons, List.not_mem_nil, or_false] at hx
      rcases hx with rfl | rfl | rfl | rfl | rfl | rfl | rfl <;> assumption
    have nd6 : [ow, lv, gv, ln, cm, nt, a].Nodup := by
      simp only [List.nodup_cons, List.mem_cons, List.not_mem_nil, or_false, not_or, List.nodup_nil, not_false_eq_true, and_true]
      exact ⟨⟨ne_lv_ow.symm, ne_gv_ow.symm, ne_ln_ow.symm, ne_cm_ow.symm, ne_nt_ow.symm, ne_a_ow.symm⟩, ⟨ne_gv_lv.symm, ne_ln_lv.symm, ne_cm_lv.symm, ne_nt_lv.symm, ne_a_lv.symm⟩, ⟨ne_ln_gv.symm, ne_cm_gv.symm, ne_nt_gv.symm, ne_a_gv.symm⟩, ⟨ne_cm_ln.symm, ne_nt_ln.symm, ne_a_ln.symm⟩, ⟨ne_nt_cm.symm, ne_a_cm.symm⟩, ne_a_nt.symm⟩
    have nda : (D :: (rs ++ [ow, lv, gv, ln, cm, nt, a])).Nodup := by
      refine List.nodup_cons.mpr ⟨fun z => ?_, List.nodup_append.mpr ⟨nd, nd6, fun r hr x hx e => ?_⟩⟩
      · rcases List.mem_append.mp z with z | z
        · exact dr z
        · exact all6 D z nD
      · subst e
        exact all6 r hx (fr r hr)
    refine k_pF (s7 _ _ ea6) T.K_Giver T.N_Giver_upto (by omega) ?_
    have keep : ∀ p o, p ∈ [ow, lv, gv, ln, cm, nt] → hid [a] G6 p = some o → ∀ x, upd H7 a x p = some o := fun p o hp e x => by
      have pa : p ≠ a := fun z => by rw [z, hid_in (by simp)] at e; cases e
      rw [upd_ne pa]
      exact s7 _ _ (hid_same _ _ _ _ e)
    refine q nt cm ln gv lv ow D rs _ ?_ ?_ (keep nt _ (by simp) ((S2.trans (S3.trans (S4.trans (S5.trans S6)))) _ _ e1) _) (keep cm _ (by simp) ((S3.trans (S4.trans (S5.trans S6))) _ _ e2) _) (keep ln _ (by simp) ((S4.trans (S5.trans S6)) _ _ e3) _) (keep gv _ (by simp) ((S5.trans S6) _ _ e4) _) (keep lv _ (by simp) (S6 _ _ e5) _) (keep ow _ (by simp) e6 _) ?_ (by rw [lr]) (fun j r hr => ?_) nda ?_
    · rw [hid_upd (by simp)]
      exact (S1.trans (S2.trans (S3.trans (S4.trans (S5.trans S6))))).trans (hid_mono s7)
    · rw [upd_same]; rfl
    · rw [upd_ne (fun z => all6 D (by rw [z]; simp) nD)]; exact eD
    · rw [upd_ne (fun z => all6 r (by rw [z]; simp) (fr r (List.mem_of_getElem? hr)))]; exact at_ j r hr
    · intro r hr
      rcases List.mem_cons.mp hr with rfl | hr
      · exact f7 _ nD
      · rcases List.mem_append.mp hr with hr | hr
        · exact f7 _ (fr r hr)
        · simp only [List.mem_cons, List.not_mem_nil, or_false] at hr
          rcases hr with rfl | rfl | rfl | rfl | rfl | rfl <;> assumption
abbrev sp_Giver_init (K : PySem.W.Frag) (A : Ad) : Sp := fun vs H Q E => ∃ v0 v1, vs = [v0, v1] ∧ pr_Giver_init K A v0 v1 H Q E
theorem ok_Giver_init (T : Txt K mg A) : FnOk P w K mg base (L2.CX P w) 4 A.a_Giver_init A.d_Giver_init ["self", "net"] (sp_Giver_init K A) := by
  refine T.F_Giver_init.okX sc_Giver_init (fun vs H Q E h => by obtain ⟨v0, v1, rfl, _⟩ := h; rfl) (fun cdv A0 outer s H vs Q E hr h => ?_)
  obtain ⟨v0, v1, rfl, h⟩ := h
  exact ⟨t_Giver_init K A E, (pss_cons (ps_expr (pe_call (E := E) (ok_must_be_kind T) (hr.mono (by decide)) (by rfl) T.g_must_be_kind T.F_must_be_kind.kp T.b_must_be_kind .nil (passes_call (takes_of rfl rfl rfl rfl) (fun _ _ _ _ h => h)) (pa_cons (pv 1) (pa_cons pe_str pa_nil))))
      (pss_cons (ps_fld (pv 0) (pe_tup (pa_cons (pe_ix ix_tup (pv 1) pe_int (fun _ _ => rfl)) (pa_cons (pe_ix ix_tup (pv 1) pe_int (fun _ _ => rfl)) pa_nil))) (by rfl))
      (pss_cons (ps_fld (pv 0) (pe_lst pa_nil) (by rfl))
      (pss_cons (ps_fld (pv 0) (pe_lst pa_nil) (by rfl))
      (pss_cons (ps_fld (pv 0) (pe_lst pa_nil) (by rfl))
      (pss_cons (ps_fld (pv 0) (pe_lst pa_nil) (by rfl))
      (pss_cons (ps_fld (pv 0) (pe_lst pa_nil) (by rfl))
      (pss_one (ps_fld (pv 0) (pe_lc (own := [("tie", 2)]) (by rfl) sc_Giver_init.nd (pi_range1 (by rfl) T.z_range (pa_cons (pe_op op_sub (pe_ix ix_tup (pv 1) pe_int (fun _ _ => rfl)) pe_int) pa_nil)) (blkOk_by (own := [("tie", 2)]) (N := ["self", "net", "tie"]) (sc := defScope s_Giver_init) (by decide +kernel)) (fun _ _ _ _ _ => (pg_name (i := 2) sc_Giver_init.nd rfl (Or.inl rfl))) (fun _ _ _ _ _ => pts_nil) (fun _ _ _ _ _ => (pe_op op_rep (pe_lst (pa_cons pe_int pa_nil)) (pe_op op_add (pe_glob (v := .int 40) (by rfl) T.c_MOST_WAYS ⟨_, rfl⟩) pe_int)))) (by rfl)))))))))), pure_Giver_init T h⟩


def rowOf (es : List Ent) (t : Nat) : List Int := (List.range 42).map fun i : Nat => ((upto es (t : Int) i : Nat) : Int)
theorem rowOf_get {es : List Ent} {t i : Nat} (h : i < 42) : (rowOf es t)[i]? = some ((upto es (t : Int) i : Nat) : Int) := by
  unfold rowOf
  rw [List.getElem?_map, List.getElem?_range h]; rfl
/-- the rows of upto -/
structure UpAt (K : PySem.W.Frag) (A : Ad) (H : Hp) (a up : Addr) (rs : List Addr) (n : Int) (es : List Ent) : Prop where
  ins : ∃ dx fs, H a = some (.ins A.c_Giver dx fs) ∧ fs.lookup (Str.ofString "upto") = some (.ref up)
  up_ : H up = some (.lst (rs.map V.ref))
  len : rs.length = (n - 1).toNat
  row : ∀ (j : Nat) r, rs[j]? = some r → H r = some (.lst (List.map V.int (rowOf es j)))
theorem UpAt.same {H H' : Hp} {a up : Addr} {rs : List Addr} {n : Int} {es : List Ent} (u : UpAt K A H a up rs n es) (s : Same H H') : UpAt K A H' a up rs n es := by
  obtain ⟨⟨dx, fs, h1, h2⟩, h3, h4, h5⟩ := u
  exact ⟨⟨dx, fs, s _ _ h1, h2⟩, s _ _ h3, h4, fun j r hr => s _ _ (h5 j r hr)⟩
def pr_Giver_level_for (K : PySem.W.Frag) (A : Ad) (v0 v1 : V) (H : Hp) (Q : VK) (_ : XK) : Prop := ∃ (a up p : Addr) (rs : List Addr) (n : Int) (es : List Ent) (w : Int × Int), v0 = .ref a ∧ v1 = .ref p ∧ UpAt K A H a up rs n es ∧ SqL K H p ((tiesI w).map V.int) ∧ 0 ≤ w.1 ∧ w.1 ≤ w.2 ∧ w.2 < n - 1 ∧ n ≤ 60 ∧ es.length ≤ 40 ∧
  ∀ (i : Nat) H', LevelOf es w i → i ≤ es.length + 1 → Same H H' → Q (.int i) H'
def t_Giver_level_for (K : PySem.W.Frag) (A : Ad) : TS :=
  (tSeq (tAsg (tC (.int 1)) (gName 2))
    (tSeq (tWhile (tTest (tOp xGt (tOp xAdd (tCB (rMax K) (tCons (tLc (iList K (tVar 1)) (gName 3) tYes (tOp (rIxL K) (tOp (rIxL K) (tFld K (tVar 0) "upto") (tVar 3)) (tVar 2)) [3]) tNil)) (tC (.int 1))) (tVar 2)))
      (tAug 2 (tC (.int 1)) (ipI fun i j => i + j)))
    (tRet (tVar 2))))
theorem pure_Giver_level_for (T : Txt K mg A) {v0 v1 : V} {H : Hp} {Q : VK} {E : XK} (h : pr_Giver_level_for K A v0 v1 H Q E) : t_Giver_level_for K A ⟨fun _ H' => Q .non H', Q, fun _ _ => False, fun _ _ => False⟩ [some v0, some v1, none, none] H := by
  obtain ⟨a, up, p, rs, n, es, w, rfl, rfl, u, hp, w0, w1, w2, n60, le, q⟩ := h
  obtain ⟨lv, hlv, lvl⟩ := level_ex es w
  unfold t_Giver_level_for
  wtm_at "s"
  refine k_while ⟨fun m σ' H' => Same H H' ∧ ∃ i : Nat, 1 ≤ i ∧ i ≤ lv ∧ m + i = lv ∧ σ' = [some (.ref a), some (.ref p), some (.int (i : Nat)), none], ⟨lv - 1, Same.refl _, 1, by omega, lvl.1, by have := lvl.1; omega, rfl⟩, ?_⟩
  rintro m σ' G ⟨sG, i, i1, i2, mi, rfl⟩
  have uG := u.same sG
  have hpG := sG.seq hp
  obtain ⟨⟨dx, fs, hia, hif⟩, hup, hlen, hrow⟩ := uG
  wtm_at "s"
  refine lc_pure hpG (tiesI w) (by simp) (by rw [tiesI_len]; omega) (fun t => some (V.int ((upto es t i : Nat) : Int))) ?_ (fun D H2 nD s2 eD => ?_)
  · intro j x t H' hx ht sm R R0 h1 h2
    rw [List.getElem?_map, ht] at hx
    cases hx
    obtain ⟨t0, t1⟩ := tiesI_mem.mp (List.mem_of_getElem? ht)
    obtain ⟨k, rfl⟩ := Int.eq_ofNat_of_zero_le (show 0 ≤ t by omega)
    obtain ⟨r, hr⟩ : ∃ r, rs[k]? = some r := ⟨rs[k]'(by omega), List.getElem?_eq_getElem (by omega)⟩
    wtm_at "s"
    refine k_gF (sm _ _ hia) T.K_Giver T.N_Giver_upto hif ?_
    wtm_at "s"
    refine k_ixL (sl (sm _ _ hup)) (atI_nat (by rw [List.getElem?_map, hr]; rfl)) ?_
    wtm_at "s"
    refine k_ixN (sl (sm _ _ (hrow k r hr))) (rowOf_get (by omega)) ?_
    exact h1 _ rfl
  have eD' : H2 D = some (.lst (List.map V.int ((tiesI w).map fun t => ((upto es t i : Nat) : Int)))) := by
    rw [eD, show (fun t => some (V.int ((upto es t i : Nat) : Int))) = some ∘ (fun t : Int => V.int ((upto es t i : Nat) : Int)) from rfl, List.filterMap_eq_map, List.map_map]; rfl
  wtm_at "s"
  refine k_max (sl eD') (by rw [List.length_map, tiesI_len]; omega) (fun mx m1 m2 => ?_)
  wtm_at "s"
  refine k_it (fun c => ?_) (fun c => ?_)
  · have il : i < lv := by
      refine Classical.byContradiction fun z => ?_
      obtain rfl : i = lv := by omega
      obtain ⟨t, ht, rfl⟩ := List.mem_map.mp m1
      have := lvl.2.1 t (tiesI_mem.mp ht)
      omega
    refine ⟨fun σ' H' => Same H H' ∧ σ' = [some (.ref a), some (.ref p), some (.int ((i + 1 : Nat) : Int)), none], fun σ' H' e => ⟨m - 1, by omega, e.1, i + 1, by omega, by omega, by omega, e.2⟩, ?_⟩
    wtm_at "s"
    exact ⟨sG.trans s2, by rw [show ((i + 1 : Nat) : Int) = (i : Int) + 1 by omega]⟩
  · have il : i = lv := by
      refine Classical.byContradiction fun z => ?_
      obtain ⟨t, ht, hu⟩ := lvl.2.2 i i1 (by omega)
      have := m2 _ (List.mem_map.mpr ⟨t, tiesI_mem.mpr ht, rfl⟩)
      omega
    subst il
    wtm_at "s"
    exact q _ _ lvl hlv (sG.trans s2)
abbrev sp_Giver_level_for (K : PySem.W.Frag) (A : Ad) : Sp := fun vs H Q E => ∃ v0 v1, vs = [v0, v1] ∧ pr_Giver_level_for K A v0 v1 H Q E
theorem ok_Giver_level_for (T : Txt K mg A) : FnOk P w K mg base CX0 1 A.a_Giver_level_for A.d_Giver_level_for ["self", "ties"] (sp_Giver_level_for K A) := by
  refine T.F_Giver_level_for.ok sc_Giver_level_for (fun vs H Q E h => by obtain ⟨v0, v1, rfl, _⟩ := h; rfl) (fun cdv A0 outer s H vs Q E hr h => ?_)
  obtain ⟨v0, v1, rfl, h⟩ := h
  exact ⟨t_Giver_level_for K A, (pss_cons (ps_set (i := 2) sc_Giver_level_for.nd rfl (Or.inr rfl) pe_int)
      (pss_cons (ps_while PassesOwn.never (pt_cmpR op_gt (pe_op op_add (pe_callB (cr_max (by rfl)) (by rfl) T.z_max (by decide +kernel) (pa_cons (pe_lc (own := [("tie", 3)]) (by rfl) sc_Giver_level_for.nd (pi_list (pv 1)) (blkOk_by (own := [("tie", 3)]) (N := ["self", "ties", "i", "tie"]) (sc := defScope s_Giver_level_for) (by decide +kernel)) (fun _ _ _ _ _ => (pg_name (i := 3) sc_Giver_level_for.nd rfl (Or.inl rfl))) (fun _ _ _ _ _ => pts_nil) (fun _ _ _ _ _ => (pe_ix ix_list (pe_ix ix_list (pe_fld (pv 0) (by rfl)) (pv 3) (fun _ _ => rfl)) (pv 2) (fun _ _ => rfl)))) pa_nil)) pe_int) (pv 2) (nomark _))
      (pss_one (ps_aug (i := 2) sc_Giver_level_for.nd rfl (Or.inr rfl) pe_int ip_add)))
      (pss_one (ps_ret (pv 2))))), pure_Giver_level_for T h⟩


def ownT (es : List Ent) (i : Nat) (t : Int) : Prop := upto es t (i - 1) = i - 1 ∧ upto es t i = i - 1
def OwnOf (es : List Ent) (w : Int × Int) (i : Nat) (t : Int) : Prop := onI w t ∧ ownT es i t ∧ ∀ t', onI w t' → t' < t → ¬ ownT es i t'
def pr_Giver_own_for (K : PySem.W.Frag) (A : Ad) (v0 v1 v2 : V) (H : Hp) (Q : VK) (_ : XK) : Prop := ∃ (a up p : Addr) (rs : List Addr) (n : Int) (es : List Ent) (w : Int × Int) (i : Nat), v0 = .ref a ∧ v1 = .ref p ∧ v2 = .int i ∧ UpAt K A H a up rs n es ∧ SqL K H p ((tiesI w).map V.int) ∧ 0 ≤ w.1 ∧ w.1 ≤ w.2 ∧ w.2 < n - 1 ∧ n ≤ 60 ∧ es.length ≤ 40 ∧ LevelOf es w i ∧ i ≤ 41 ∧ (∀ e ∈ es, 1 ≤ e.2) ∧
  ∀ (t : Int), OwnOf es w i t → Q (.int t) H
def t_Giver_own_for (K : PySem.W.Frag) (A : Ad) : TS :=
  (tSeq (tFor (iList K (tVar 1)) (gName 3)
      (tIfS (tAnd (tTest (tOp rEq (tOp (rIxL K) (tOp (rIxL K) (tFld K (tVar 0) "upto") (tVar 3)) (tOp xSub (tVar 2) (tC (.int 1)))) (tOp xSub (tVar 2) (tC (.int 1))))) (tTest (tOp rEq (tOp (rIxL K) (tOp (rIxL K) (tFld K (tVar 0) "upto") (tVar 3)) (tVar 2)) (tOp xSub (tVar 2) (tC (.int 1)))))) (tRet (tVar 3)) tNext))
    (tRet (tC .non)))
theorem own_there {es : List Ent} {w : Int × Int} {i : Nat} (l : LevelOf es w i) (hw : w.1 ≤ w.2) (pos : ∀ e ∈ es, 1 ≤ e.2) : ∃ t, onI w t ∧ ownT es i t := by
  obtain ⟨l1, l2, l3⟩ := l
  have key : ∀ t, onI w t → i - 1 ≤ upto es t (i - 1) → ownT es i t := fun t ht hu => by
    have a := l2 t ht
    have b := upto_lev (es := es) (t := t) (i := i - 1) (j := i) (by omega)
    exact ⟨by omega, by omega⟩
  by_cases c : i = 1
  · subst c
    exact ⟨w.1, ⟨by omega, hw⟩, key _ ⟨by omega, hw⟩ (Nat.zero_le _)⟩
  · obtain ⟨t, h1, h2⟩ := l3 (i - 1) (by omega) (by omega)
    exact ⟨t, h1, key t h1 h2⟩
theorem pure_Giver_own_for (T : Txt K mg A) {v0 v1 v2 : V} {H : Hp} {Q : VK} {E : XK} (h : pr_Giver_own_for K A v0 v1 v2 H Q E) : t_Giver_own_for K A ⟨fun _ H' => Q .non H', Q, fun _ _ => False, fun _ _ => False⟩ [some v0, some v1, some v2, none] H := by
  obtain ⟨a, up, p, rs, n, es, w, i, rfl, rfl, rfl, u, hp, w0, w1, w2, n60, le, lvl, i41, pos, q⟩ := h
  obtain ⟨own, hown⟩ := own_there lvl w1 pos
  have i1 := lvl.1
  obtain ⟨⟨dx, fs, hia, hif⟩, hup, hlen, hrow⟩ := u
  unfold t_Giver_own_for
  wtm_at "s"
  refine forL hp (fun j σ' H' => H' = H ∧ (∀ t, onI w t → t < w.1 + (j : Nat) → ¬ ownT es i t) ∧ ∃ k3, σ' = [some (.ref a), some (.ref p), some (.int (i : Nat)), k3]) ⟨rfl, fun t ht h => by unfold onI at ht; omega, _, rfl⟩ (fun j σ' H' _ e => by rw [e.1]; exact hp) ?_ ?_
  · rintro j x σ' H' hx ⟨rfl, hno, k3, rfl⟩
    have hj : j < (tiesI w).length := by
      have := (List.getElem?_eq_some_iff.mp hx).1
      simpa using this
    rw [tiesI_len] at hj
    rw [List.getElem?_map, tiesI_get (by omega)] at hx
    cases hx
    obtain ⟨k, hk⟩ := Int.eq_ofNat_of_zero_le (show 0 ≤ w.1 + (j : Int) by omega)
    obtain ⟨r, hr⟩ : ∃ r, rs[k]? = some r := ⟨rs[k]'(by omega), List.getElem?_eq_getElem (by omega)⟩
    rw [hk]
    wtm_at "s"
    refine k_gF hia T.K_Giver T.N_Giver_upto hif ?_
    wtm_at "s"
    refine k_ixL (sl hup) (atI_nat (by rw [List.getElem?_map, hr]; rfl)) ?_
    wtm_at "s"
    rw [show (i : Int) - 1 = ((i - 1 : Nat) : Int) by omega]
    refine k_ixN (sl (hrow k r hr)) (rowOf_get (by omega)) ?_
    wtm_at "s"
    have more : ¬ ownT es i (k : Int) → ∀ t, onI w t → t < w.1 + ((j + 1 : Nat) : Int) → ¬ ownT es i t := fun nk t ht hlt => by
      by_cases c : t < w.1 + (j : Nat)
      · exact hno t ht c
      · rw [show t = (k : Int) by omega]; exact nk
    refine k_it (fun c1 => ?_) (fun c1 => ?_)
    · wtm_at "s"
      refine k_gF hia T.K_Giver T.N_Giver_upto hif ?_
      wtm_at "s"
      refine k_ixL (sl hup) (atI_nat (by rw [List.getElem?_map, hr]; rfl)) ?_
      wtm_at "s"
      refine k_ixN (sl (hrow k r hr)) (rowOf_get (by omega)) ?_
      wtm_at "s"
      refine k_it (fun c2 => ?_) (fun c2 => ?_)
      · wtm_at "s"
        exact q _ ⟨⟨by omega, by omega⟩, ⟨by omega, by omega⟩, fun t' ht hlt => hno t' ht (by omega)⟩
      · exact k_next ⟨rfl, more (fun z => c2 (by have := z.2; omega)), _, rfl⟩
    · first | refine k_next ?_ | refine iteF (k_next ?_)
      exact ⟨rfl, more (fun z => c1 (by have := z.1; omega)), _, rfl⟩
  · rintro σ' H' ⟨rfl, hno, k3, rfl⟩
    exact absurd hown.2 (hno own hown.1 (by rw [List.length_map, tiesI_len]; have := hown.1.2; omega))
abbrev sp_Giver_own_for (K : PySem.W.Frag) (A : Ad) : Sp := fun vs H Q E => ∃ v0 v1 v2, vs = [v0, v1, v2] ∧ pr_Giver_own_for K A v0 v1 v2 H Q E
theorem ok_Giver_own_for (T : Txt K mg A) : FnOk P w K mg base CX0 1 A.a_Giver_own_for A.d_Giver_own_for ["self", "ties", "i"] (sp_Giver_own_for K A) := by
  refine T.F_Giver_own_for.ok sc_Giver_own_for (fun vs H Q E h => by obtain ⟨v0, v1, v2, rfl, _⟩ := h; rfl) (fun cdv A0 outer s H vs Q E hr h => ?_)
  obtain ⟨v0, v1, v2, rfl, h⟩ := h
  exact ⟨t_Giver_own_for K A, (pss_cons (ps_for PassesOwn.never rfl (pi_list (pv 1)) (pg_name (i := 3) sc_Giver_own_for.nd rfl (Or.inl rfl))
      (pss_one (ps_if (PW.pt (pw_and (pt_cmpR op_eq (pe_ix ix_list (pe_ix ix_list (pe_fld (pv 0) (by rfl)) (pv 3) (fun _ _ => rfl)) (pe_op op_sub (pv 2) pe_int) (fun _ _ => rfl)) (pe_op op_sub (pv 2) pe_int) (nomark _)) (pw_and1 (pt_cmpR op_eq (pe_ix ix_list (pe_ix ix_list (pe_fld (pv 0) (by rfl)) (pv 3) (fun _ _ => rfl)) (pv 2) (fun _ _ => rfl)) (pe_op op_sub (pv 2) pe_int) (nomark _))))) (pss_one (ps_ret (pv 3))) pss_nil)))
      (pss_one (ps_ret pe_non))), pure_Giver_own_for T h⟩
theorem nodup_inj {α : Type} {l : List α} {i j : Nat} {x : α} (nd : l.Nodup) (hi : l[i]? = some x) (hj : l[j]? = some x) : i = j := by
  obtain ⟨b1, b2⟩ := List.getElem?_eq_some_iff.mp hi
  obtain ⟨c1, c2⟩ := List.getElem?_eq_some_iff.mp hj
  rcases Nat.lt_trichotomy i j with h | h | h
  · exact absurd (b2.trans c2.symm) (List.pairwise_iff_getElem.mp nd i j b1 c1 h)
  · exact h
  · exact absurd (c2.trans b2.symm) (List.pairwise_iff_getElem.mp nd j i c1 b1 h)
instance (w : Int × Int) (t : Int) : Decidable (onI w t) := inferInstanceAs (Decidable (w.1 ≤ t ∧ t ≤ w.2))
theorem upto_more {es : List Ent} {w : Int × Int} {i : Nat} {t : Int} {k : Nat} : upto (es ++ [(w, i)]) t k = upto es t k + if i ≤ k ∧ onI w t then 1 else 0 := by
  unfold upto
  rw [List.countP_append, List.countP_singleton]
  congr 1
  by_cases c : i ≤ k ∧ onI w t
  · rw [if_pos c, if_pos (pUp_on.mpr c)]
  · rw [if_neg c, if_neg (fun z => c (pUp_on.mp z))]
theorem row_off {es : List Ent} {w : Int × Int} {i t : Nat} (h : ¬ onI w (t : Int)) : rowOf (es ++ [(w, i)]) t = rowOf es t := by
  unfold rowOf
  refine List.map_congr_left fun k _ => ?_
  rw [upto_more, if_neg (fun z => h z.2), Nat.add_zero]
/-- a row half way: the first m of it are new -/
def rowMid (es : List Ent) (w : Int × Int) (i t m : Nat) : List Int := (List.range 42).map fun k : Nat => if k < m then ((upto (es ++ [(w, i)]) (t : Int) k : Nat) : Int) else ((upto es (t : Int) k : Nat) : Int)
theorem mid_from {es : List Ent} {w : Int × Int} {i t : Nat} : rowMid es w i t i = rowOf es t := by
  unfold rowMid rowOf
  refine List.map_congr_left fun k _ => ?_
  split
  · rw [upto_more, if_neg (fun z => by have := z.1; omega), Nat.add_zero]
  · rfl
theorem mid_end {es : List Ent} {w : Int × Int} {i t m : Nat} (h : 42 ≤ m) : rowMid es w i t m = rowOf (es ++ [(w, i)]) t := by
  unfold rowMid rowOf
  refine List.map_congr_left fun k hk => ?_
  have := List.mem_range.mp hk
  rw [if_pos (by omega)]
theorem mid_get {es : List Ent} {w : Int × Int} {i t m : Nat} (h : m < 42) : (rowMid es w i t m)[m]? = some ((upto es (t : Int) m : Nat) : Int) := by
  unfold rowMid
  rw [List.getElem?_map, List.getElem?_range h]
  simp
theorem mid_set {es : List Ent} {w : Int × Int} {i t m : Nat} (h : m < 42) (hi : i ≤ m) (on : onI w (t : Int)) : (rowMid es w i t m).set m (((upto es (t : Int) m : Nat) : Int) + 1) = rowMid es w i t (m + 1) := by
  refine List.ext_getElem? fun k => ?_
  unfold rowMid
  rw [List.getElem?_set]
  by_cases c : m = k
  · subst c
    rw [if_pos rfl, if_pos (by simp [h]), List.getElem?_map, List.getElem?_range h]
    simp only [Option.map_some]
    rw [if_pos (by omega), upto_more, if_pos ⟨hi, on⟩]
    congr 1
  · rw [if_neg c, List.getElem?_map, List.getElem?_map]
    by_cases d : k < 42
    · rw [List.getElem?_range d]
      simp only [Option.map_some]
      congr 1
      by_cases e : k < m
      · rw [if_pos e, if_pos (by omega)]
      · rw [if_neg e, if_neg (by omega)]
    · rw [List.getElem?_eq_none (by simpa using d)]; rfl
def pr_Giver_counted_in (K : PySem.W.Frag) (A : Ad) (v0 v1 v2 : V) (H : Hp) (Q : VK) (_ : XK) : Prop := ∃ (a up p : Addr) (rs : List Addr) (n : Int) (es : List Ent) (w : Int × Int) (i : Nat), v0 = .ref a ∧ v1 = .ref p ∧ v2 = .int i ∧ UpAt K A H a up rs n es ∧ H p = some (.lst ((tiesI w).map V.int)) ∧ a ∉ rs ∧ up ∉ rs ∧ p ∉ rs ∧ rs.Nodup ∧ 0 ≤ w.1 ∧ w.1 ≤ w.2 ∧ w.2 < n - 1 ∧ n ≤ 60 ∧ es.length ≤ 40 ∧ i ≤ 41 ∧
  ∀ H', Same (hid rs H) (hid rs H') → UpAt K A H' a up rs n (es ++ [(w, i)]) → Q .non H'
def t_Giver_counted_in (K : PySem.W.Frag) (A : Ad) : TS :=
  (tFor (iList K (tVar 1)) (gName 3)
      (tFor (iRng2 (tCons (tVar 2) (tCons (tOp xAdd (tC (.int 40)) (tC (.int 2))) tNil))) (gName 4)
      (xAugL K (tOp (rIxL K) (tFld K (tVar 0) "upto") (tVar 3)) (tVar 4) (tC (.int 1)))))
theorem pure_Giver_counted_in (T : Txt K mg A) {v0 v1 v2 : V} {H : Hp} {Q : VK} {E : XK} (h : pr_Giver_counted_in K A v0 v1 v2 H Q E) : t_Giver_counted_in K A ⟨fun _ H' => Q .non H', Q, fun _ _ => False, fun _ _ => False⟩ [some v0, some v1, some v2, none, none] H := by
  obtain ⟨a, up, p, rs, n, es, w, i, rfl, rfl, rfl, u, hp, na, nu, np, nd, w0, w1, w2, n60, le, i41, q⟩ := h
  obtain ⟨⟨dx, fs, hia, hif⟩, hup, hlen, hrow⟩ := u
  have hia' : hid rs H a = some (.ins A.c_Giver dx fs) := by rw [hid_ne na]; exact hia
  have hup' : hid rs H up = some (.lst (rs.map V.ref)) := by rw [hid_ne nu]; exact hup
  have hp' : hid rs H p = some (.lst ((tiesI w).map V.int)) := by rw [hid_ne np]; exact hp
  unfold t_Giver_counted_in
  wtm_at "s"
  refine forL (sl hp) (fun j σ' H' => Same (hid rs H) (hid rs H') ∧ (∀ (t : Nat) r, rs[t]? = some r → H' r = some (.lst (List.map V.int (if (t : Int) < w.1 + (j : Nat) then rowOf (es ++ [(w, i)]) t else rowOf es t)))) ∧ ∃ k3 k4, σ' = [some (.ref a), some (.ref p), some (.int (i : Nat)), k3, k4])
    ⟨Same.refl _, fun t r hr => ?_, _, _, rfl⟩ (fun j σ' H' _ e => sl (hid_same _ _ _ _ (e.1 _ _ hp'))) ?_ ?_
  · rw [hrow t r hr]
    split
    · rw [row_off (fun z => by have := z.1; omega)]
    · rfl
  · rintro j x σ' G hx ⟨sG, rows, k3, k4, rfl⟩
    have hj : j < (tiesI w).length := by
      have := (List.getElem?_eq_some_iff.mp hx).1
      simpa using this
    rw [tiesI_len] at hj
    rw [List.getElem?_map, tiesI_get (by omega)] at hx
    cases hx
    obtain ⟨k, hk⟩ := Int.eq_ofNat_of_zero_le (show 0 ≤ w.1 + (j : Int) by omega)
    obtain ⟨r, hr⟩ : ∃ r, rs[k]? = some r := ⟨rs[k]'(by omega), List.getElem?_eq_getElem (by omega)⟩
    have on : onI w (k : Int) := ⟨by omega, by omega⟩
    have rin : r ∈ rs := List.mem_of_getElem? hr
    have rowk := rows k r hr
    rw [if_neg (by omega)] at rowk
    rw [hk]
    wtm_at "s"
    have ar : a ∉ [r] := fun z => na (by rw [List.mem_singleton.mp z]; exact rin)
    have ur : up ∉ [r] := fun z => nu (by rw [List.mem_singleton.mp z]; exact rin)
    have ga0 : hid [r] G a = some (.ins A.c_Giver dx fs) := by rw [hid_ne ar]; exact hid_same _ _ _ _ (sG _ _ hia')
    have gu0 : hid [r] G up = some (.lst (rs.map V.ref)) := by rw [hid_ne ur]; exact hid_same _ _ _ _ (sG _ _ hup')
    refine forR (fun m σ' G' => Same (hid [r] G) (hid [r] G') ∧ G' r = some (.lst (List.map V.int (rowMid es w i k (i + m)))) ∧ ∃ k4, σ' = [some (.ref a), some (.ref p), some (.int (i : Nat)), some (.int (k : Nat)), k4]) ⟨Same.refl _, by rw [rowk, Nat.add_zero, mid_from], _, rfl⟩ ?_ ?_
    · rintro m σ' G' hm ⟨s', er, k4, rfl⟩
      have ga := hid_same _ _ _ _ (s' _ _ ga0)
      have gu := hid_same _ _ _ _ (s' _ _ gu0)
      have i42 : i + m < 42 := by omega
      have lmid : (rowMid es w i k (i + m)).length = 42 := by unfold rowMid; simp
      rw [show (i : Int) + (m : Nat) = ((i + m : Nat) : Int) by omega]
      wtm_at "s"
      refine k_gF ga T.K_Giver T.N_Giver_upto hif ?_
      wtm_at "s"
      refine k_ixL (sl gu) (atI_nat (by rw [List.getElem?_map, hr]; rfl)) ?_
      wtm_at "s"
      refine k_getI (ns := rowMid es w i k (i + m)) (sl er) (by omega) (by omega) ?_
      rw [Int.toNat_natCast, List.getD_eq_getElem?_getD, mid_get i42]
      wtm_at "s"
      refine k_setL er (j := i + m) (by unfold ixN; rw [if_pos (by omega)]; simp [lmid]; omega) ?_
      refine ⟨by rw [hid_upd (by simp)]; exact s', ?_, _, rfl⟩
      rw [upd_same, ← Nat.add_assoc, ← mid_set i42 (by omega) on, List.map_set]; rfl
    · rintro σ' G' ⟨s', er, k4, rfl⟩
      refine ⟨sG.trans (hid_more s' (fun x hx => by rw [List.mem_singleton.mp hx]; exact rin)), fun t r' hr' => ?_, _, _, rfl⟩
      by_cases c : t = k
      · subst c
        obtain rfl : r' = r := Option.some.inj (hr'.symm.trans hr)
        rw [er, if_pos (by omega), mid_end (by omega)]
      · have ne : r' ∉ [r] := fun z => by
          have e := List.mem_singleton.mp z
          subst e
          exact c (nodup_inj nd hr' hr)
        have := s' r' _ (by rw [hid_ne ne]; exact rows t r' hr')
        rw [hid_same _ _ _ _ this]
        by_cases d : (t : Int) < w.1 + (j : Nat)
        · rw [if_pos d, if_pos (by omega)]
        · rw [if_neg d, if_neg (by omega)]
  · rintro σ' G ⟨sG, rows, k3, k4, rfl⟩
    wtm_at "s"
    refine q G sG ⟨⟨dx, fs, hid_same _ _ _ _ (sG _ _ hia'), hif⟩, hid_same _ _ _ _ (sG _ _ hup'), hlen, fun t r hr => ?_⟩
    rw [rows t r hr, List.length_map, tiesI_len]
    split
    · rfl
    · rw [row_off (fun z => by have := z.2; omega)]
abbrev sp_Giver_counted_in (K : PySem.W.Frag) (A : Ad) : Sp := fun vs H Q E => ∃ v0 v1 v2, vs = [v0, v1, v2] ∧ pr_Giver_counted_in K A v0 v1 v2 H Q E
theorem ok_Giver_counted_in (T : Txt K mg A) : FnOk P w K mg base CX0 1 A.a_Giver_counted_in A.d_Giver_counted_in ["self", "ties", "i"] (sp_Giver_counted_in K A) := by
  refine T.F_Giver_counted_in.ok sc_Giver_counted_in (fun vs H Q E h => by obtain ⟨v0, v1, v2, rfl, _⟩ := h; rfl) (fun cdv A0 outer s H vs Q E hr h => ?_)
  obtain ⟨v0, v1, v2, rfl, h⟩ := h
  exact ⟨t_Giver_counted_in K A, (pss_one (ps_for PassesOwn.never rfl (pi_list (pv 1)) (pg_name (i := 3) sc_Giver_counted_in.nd rfl (Or.inl rfl))
      (pss_one (ps_for PassesOwn.never rfl (pi_range2 (by rfl) T.z_range (pa_cons (pv 2) (pa_cons (pe_op op_add (pe_glob (v := .int 40) (by rfl) T.c_MOST_WAYS ⟨_, rfl⟩) pe_int) pa_nil))) (pg_name (i := 4) sc_Giver_counted_in.nd rfl (Or.inl rfl))
      (pss_one (q_augL (pe_ix ix_list (pe_fld (pv 0) (by rfl)) (pv 3) (fun _ _ => rfl)) (pv 4) pe_int)))))), pure_Giver_counted_in T h⟩


def pr_Giver_ways (K : PySem.W.Frag) (A : Ad) (v0 : V) (H : Hp) (Q : VK) (_ : XK) : Prop := ∃ (a dx l : Addr) (fs : List (Str × V)) (ys : List V), v0 = .ref a ∧ H a = some (.ins A.c_Giver dx fs) ∧ fs.lookup (Str.ofString "come") = some (.ref l) ∧ H l = some (.lst ys) ∧ ∀ p H', H p = none → Same H H' → H' p = some (.lst ys) → Q (.ref p) H'
def t_Giver_ways (K : PySem.W.Frag) (A : Ad) : TS :=
  (tRet (tCB (rListOf K) (tCons (tFld K (tVar 0) "come") tNil)))
theorem pure_Giver_ways (T : Txt K mg A) {v0 : V} {H : Hp} {Q : VK} {E : XK} (h : pr_Giver_ways K A v0 H Q E) : t_Giver_ways K A ⟨fun _ H' => Q .non H', Q, fun _ _ => False, fun _ _ => False⟩ [some v0] H := by
  obtain ⟨a, dx, l, fs, ys, rfl, ha, hf, hl, q⟩ := h
  unfold t_Giver_ways
  wtm_at "s"
  refine k_gF ha T.K_Giver T.N_Giver_come hf ?_
  wtm_at "s"
  refine k_listN (sl hl) (fun p H1 np s1 e1 => ?_)
  exact q p H1 np s1 e1
abbrev sp_Giver_ways (K : PySem.W.Frag) (A : Ad) : Sp := fun vs H Q E => ∃ v0, vs = [v0] ∧ pr_Giver_ways K A v0 H Q E
theorem ok_Giver_ways (T : Txt K mg A) : FnOk P w K mg base CX0 1 A.a_Giver_ways A.d_Giver_ways ["self"] (sp_Giver_ways K A) := by
  refine T.F_Giver_ways.ok sc_Giver_ways (fun vs H Q E h => by obtain ⟨v0, rfl, _⟩ := h; rfl) (fun cdv A0 outer s H vs Q E hr h => ?_)
  obtain ⟨v0, rfl, h⟩ := h
  exact ⟨t_Giver_ways K A, (pss_one (ps_ret (pe_callTy q_listOf (by rfl) T.z_list (by decide +kernel) (pa_cons (pe_fld (pv 0) (by rfl)) pa_nil)))), pure_Giver_ways T h⟩
def pr_Giver_hues (K : PySem.W.Frag) (A : Ad) (v0 : V) (H : Hp) (Q : VK) (_ : XK) : Prop := ∃ (a dx l : Addr) (fs : List (Str × V)) (ys : List V), v0 = .ref a ∧ H a = some (.ins A.c_Giver dx fs) ∧ fs.lookup (Str.ofString "given") = some (.ref l) ∧ H l = some (.lst ys) ∧ ∀ p H', H p = none → Same H H' → H' p = some (.lst ys) → Q (.ref p) H'
def t_Giver_hues (K : PySem.W.Frag) (A : Ad) : TS :=
  (tRet (tCB (rListOf K) (tCons (tFld K (tVar 0) "given") tNil)))
theorem pure_Giver_hues (T : Txt K mg A) {v0 : V} {H : Hp} {Q : VK} {E : XK} (h : pr_Giver_hues K A v0 H Q E) : t_Giver_hues K A ⟨fun _ H' => Q .non H', Q, fun _ _ => False, fun _ _ => False⟩ [some v0] H := by
  obtain ⟨a, dx, l, fs, ys, rfl, ha, hf, hl, q⟩ := h
  unfold t_Giver_hues
  wtm_at "s"
  refine k_gF ha T.K_Giver T.N_Giver_given hf ?_
  wtm_at "s"
  refine k_listN (sl hl) (fun p H1 np s1 e1 => ?_)
  exact q p H1 np s1 e1
abbrev sp_Giver_hues (K : PySem.W.Frag) (A : Ad) : Sp := fun vs H Q E => ∃ v0, vs = [v0] ∧ pr_Giver_hues K A v0 H Q E
theorem ok_Giver_hues (T : Txt K mg A) : FnOk P w K mg base CX0 1 A.a_Giver_hues A.d_Giver_hues ["self"] (sp_Giver_hues K A) := by
  refine T.F_Giver_hues.ok sc_Giver_hues (fun vs H Q E h => by obtain ⟨v0, rfl, _⟩ := h; rfl) (fun cdv A0 outer s H vs Q E hr h => ?_)
  obtain ⟨v0, rfl, h⟩ := h
  exact ⟨t_Giver_hues K A, (pss_one (ps_ret (pe_callTy q_listOf (by rfl) T.z_list (by decide +kernel) (pa_cons (pe_fld (pv 0) (by rfl)) pa_nil)))), pure_Giver_hues T h⟩
def pr_Giver_levels (K : PySem.W.Frag) (A : Ad) (v0 : V) (H : Hp) (Q : VK) (_ : XK) : Prop := ∃ (a dx l : Addr) (fs : List (Str × V)) (ys : List V), v0 = .ref a ∧ H a = some (.ins A.c_Giver dx fs) ∧ fs.lookup (Str.ofString "level") = some (.ref l) ∧ H l = some (.lst ys) ∧ ∀ p H', H p = none → Same H H' → H' p = some (.lst ys) → Q (.ref p) H'
def t_Giver_levels (K : PySem.W.Frag) (A : Ad) : TS :=
  (tRet (tCB (rListOf K) (tCons (tFld K (tVar 0) "level") tNil)))
theorem pure_Giver_levels (T : Txt K mg A) {v0 : V} {H : Hp} {Q : VK} {E : XK} (h : pr_Giver_levels K A v0 H Q E) : t_Giver_levels K A ⟨fun _ H' => Q .non H', Q, fun _ _ => False, fun _ _ => False⟩ [some v0] H := by
  obtain ⟨a, dx, l, fs, ys, rfl, ha, hf, hl, q⟩ := h
  unfold t_Giver_levels
  wtm_at "s"
  refine k_gF ha T.K_Giver T.N_Giver_level hf ?_
  wtm_at "s"
  refine k_listN (sl hl) (fun p H1 np s1 e1 => ?_)
  exact q p H1 np s1 e1
abbrev sp_Giver_levels (K : PySem.W.Frag) (A : Ad) : Sp := fun vs H Q E => ∃ v0, vs = [v0] ∧ pr_Giver_levels K A v0 H Q E
theorem ok_Giver_levels (T : Txt K mg A) : FnOk P w K mg base CX0 1 A.a_Giver_levels A.d_Giver_levels ["self"] (sp_Giver_levels K A) := by
  refine T.F_Giver_levels.ok sc_Giver_levels (fun vs H Q E h => by obtain ⟨v0, rfl, _⟩ := h; rfl) (fun cdv A0 outer s H vs Q E hr h => ?_)
  obtain ⟨v0, rfl, h⟩ := h
  exact ⟨t_Giver_levels K A, (pss_one (ps_ret (pe_callTy q_listOf (by rfl) T.z_list (by decide +kernel) (pa_cons (pe_fld (pv 0) (by rfl)) pa_nil)))), pure_Giver_levels T h⟩
def pr_Giver_own_tie (K : PySem.W.Frag) (A : Ad) (v0 v1 : V) (H : Hp) (Q : VK) (E : XK) : Prop := ∃ (a dx l c : Addr) (fs : List (Str × V)) (ys zs : List V) (k : Int), v0 = .ref a ∧ v1 = .int k ∧ H a = some (.ins A.c_Giver dx fs) ∧ fs.lookup (Str.ofString "come") = some (.ref c) ∧ fs.lookup (Str.ofString "own") = some (.ref l) ∧ H c = some (.lst zs) ∧ H l = some (.lst ys) ∧
  ((∃ (j : Nat) (v : V), k = j ∧ j < zs.length ∧ ys[j]? = some v ∧ Q v H) ∨ ((k < 0 ∨ (zs.length : Int) ≤ k) ∧ ∀ d, H d = none → E (.ref A.c_NoWay) (some d) (upd H d (.xd [(Str.ofString "at", .int k)]))))
def t_Giver_own_tie (K : PySem.W.Frag) (A : Ad) (E : XK) : TS :=
  (tSeq (tIfS (tOr (tTest (tOp xLt (tVar 1) (tC (.int 0)))) (tTest (tOp xGe (tVar 1) (tCB (rLen K) (tCons (tFld K (tVar 0) "come") tNil))))) (tRaiseO A.c_NoWay (spInit A.c_NoWay (Str.ofString "at")) (tCons (tVar 1) tNil) E) tNext)
    (tRet (tOp (rIxL K) (tFld K (tVar 0) "own") (tVar 1))))
theorem pure_Giver_own_tie (T : Txt K mg A) {v0 v1 : V} {H : Hp} {Q : VK} {E : XK} (h : pr_Giver_own_tie K A v0 v1 H Q E) : t_Giver_own_tie K A E ⟨fun _ H' => Q .non H', Q, fun _ _ => False, fun _ _ => False⟩ [some v0, some v1] H := by
  obtain ⟨a, dx, l, c, fs, ys, zs, k, rfl, rfl, ha, hc, ho, ec, el, h⟩ := h
  unfold t_Giver_own_tie
  rcases h with ⟨j, v, rfl, hj, hv, q⟩ | ⟨hk, q⟩
  · wtm_at "s"
    refine k_gF ha T.K_Giver T.N_Giver_come hc ?_
    wtm_at "s"
    refine k_gF ha T.K_Giver T.N_Giver_own ho ?_
    wtm_at "s"
    refine k_ixL (sl el) (atI_nat hv) ?_
    exact q
  · by_cases c0 : k < 0
    · wtm_at "s"
      refine k_raiseO (f := Str.ofString "at") (v := .int k) (fun R h => ?_) (fun d nd => q d nd)
      wtm_at "s"; exact h
    · wtm_at "s"
      refine k_gF ha T.K_Giver T.N_Giver_come hc ?_
      wtm_at "s"
      refine k_raiseO (f := Str.ofString "at") (v := .int k) (fun R h => ?_) (fun d nd => q d nd)
      wtm_at "s"; exact h
abbrev sp_Giver_own_tie (K : PySem.W.Frag) (A : Ad) : Sp := fun vs H Q E => ∃ v0 v1, vs = [v0, v1] ∧ pr_Giver_own_tie K A v0 v1 H Q E
theorem ok_Giver_own_tie (T : Txt K mg A) : FnOk P w K mg base (L2.CX P w) 3 A.a_Giver_own_tie A.d_Giver_own_tie ["self", "number"] (sp_Giver_own_tie K A) := by
  refine T.F_Giver_own_tie.okX sc_Giver_own_tie (fun vs H Q E h => by obtain ⟨v0, v1, rfl, _⟩ := h; rfl) (fun cdv A0 outer s H vs Q E hr h => ?_)
  obtain ⟨v0, v1, rfl, h⟩ := h
  exact ⟨t_Giver_own_tie K A E, (pss_cons (ps_if (PW.pt (pw_or (pt_cmpR op_lt (pv 1) pe_int (nomark _)) (pw_or1 (pt_cmpR op_ge (pv 1) (pe_callB q_len (by rfl) T.z_len (by decide +kernel) (pa_cons (pe_fld (pv 0) (by rfl)) pa_nil)) (nomark _))))) (pss_one (ps_raise rfl (takes_of rfl rfl rfl rfl) (pmk_oex T.o_NoWay T.in_NoWay T.ti_NoWay (ok_init_NoWay T) (hr.mono (by decide)) T.bi_NoWay .nil pass0 (by rfl) T.k_NoWay (pa_cons (pv 1) pa_nil)))) pss_nil)
      (pss_one (ps_ret (pe_ix ix_list (pe_fld (pv 0) (by rfl)) (pv 1) (fun _ _ => rfl))))), pure_Giver_own_tie T h⟩


/-- one of the level's hues is free -/
theorem free_hue {es : List Ent} {w : Int × Int} {i : Nat} (g : GoodE (es ++ [(w, i)])) (hs : List Int) : ∃ h ∈ lvHues i, ∀ k v, es[k]? = some (v, i) → meetI v w → hs.getD k 0 ≠ h := by
  have hn : (es ++ [(w, i)])[es.length]? = some (w, i) := by rw [List.getElem?_append_right (Nat.le_refl _)]; simp
  have up : ∀ k v, es[k]? = some (v, i) → (es ++ [(w, i)])[k]? = some (v, i) ∧ k < es.length := fun k v h => by
    have hk := (List.getElem?_eq_some_iff.mp h).1
    exact ⟨by rw [List.getElem?_append_left hk]; exact h, hk⟩
  by_cases c : i = 1
  · subst c
    exact ⟨0, by unfold lvHues; simp, fun k v hk hm => absurd (one_alone g hn (up k v hk).1 (up k v hk).2 hm) id⟩
  · have eL : lvHues i = [3 * (i : Int) - 5, 3 * (i : Int) - 4, 3 * (i : Int) - 3] := by unfold lvHues; rw [if_neg c]
    refine Classical.byContradiction fun z => ?_
    have ex : ∀ h ∈ lvHues i, ∃ k v, es[k]? = some (v, i) ∧ meetI v w ∧ hs.getD k 0 = h := fun h hh => Classical.byContradiction fun y => z ⟨h, hh, fun k v h1 h2 h3 => y ⟨k, v, h1, h2, h3⟩⟩
    rw [eL] at ex
    obtain ⟨a, x, a1, a2, a3⟩ := ex (3 * (i : Int) - 5) (by simp)
    obtain ⟨b, y, b1, b2, b3⟩ := ex (3 * (i : Int) - 4) (by simp)
    obtain ⟨d, u, d1, d2, d3⟩ := ex (3 * (i : Int) - 3) (by simp)
    have la := (up a x a1).2
    have lb := (up b y b1).2
    have ld := (up d u d1).2
    refine no_three g hn (up a x a1).1 (up b y b1).1 (up d u d1).1 (by omega) (by omega) (by omega) a2 b2 d2 (fun e => ?_) (fun e => ?_) (fun e => ?_)
    · rw [e, b3] at a3; omega
    · rw [e, d3] at a3; omega
    · rw [e, d3] at b3; omega
theorem ss_ext : ∀ {xs ys : List Int}, xs.Pairwise (· < ·) → ys.Pairwise (· < ·) → (∀ t, t ∈ xs ↔ t ∈ ys) → xs = ys
  | [], [], _, _, _ => rfl
  | [], y :: ys, _, _, h => by have := (h y).mpr List.mem_cons_self; cases this
  | x :: xs, [], _, _, h => by have := (h x).mp List.mem_cons_self; cases this
  | x :: xs, y :: ys, h1, h2, h => by
    obtain ⟨a1, a2⟩ := List.pairwise_cons.mp h1
    obtain ⟨b1, b2⟩ := List.pairwise_cons.mp h2
    have e : x = y := by
      rcases List.mem_cons.mp ((h x).mp List.mem_cons_self) with e | e
      · exact e
      · rcases List.mem_cons.mp ((h y).mpr List.mem_cons_self) with e' | e'
        · exact e'.symm
        · have := b1 _ e; have := a1 _ e'; omega
    subst e
    congr 1
    refine ss_ext a2 b2 fun t => ?_
    constructor
    · intro ht
      rcases List.mem_cons.mp ((h t).mp (List.mem_cons_of_mem _ ht)) with e | e
      · have := a1 _ ht; omega
      · exact e
    · intro ht
      rcases List.mem_cons.mp ((h t).mpr (List.mem_cons_of_mem _ ht)) with e | e
      · have := b1 _ ht; omega
      · exact e
theorem tiesI_srt (w : Int × Int) : (tiesI w).Pairwise (· < ·) := by
  unfold tiesI
  rw [List.pairwise_map]
  exact List.pairwise_lt_range.imp fun h => by omega
theorem line_ties {n a b : Int} {ns : List Int} (h : TiesOf (.line n) a b ns) : ns = tiesI (min a b, max a b - 1) := by
  refine ss_ext h.srt (tiesI_srt _) fun t => ?_
  rw [tiesI_mem, h.mem]
  show (min a b ≤ t ∧ t < max a b) ↔ _
  simp only
  omega


instance (w v : Int × Int) : Decidable (meetI w v) := inferInstanceAs (Decidable (max w.1 v.1 ≤ min w.2 v.2))
/-- the places of a Giver -/
structure Gv where
  a : Addr
  dx : Addr
  nt : Addr
  cm : Addr
  ln : Addr
  gv : Addr
  lv : Addr
  ow : Addr
  up : Addr
  rs : List Addr
def Gv.cells (g : Gv) : List Addr := g.up :: (g.rs ++ [g.ow, g.lv, g.gv, g.ln, g.cm, g.nt, g.a])
def tieW (w : Int × Int) : Int × Int := (min w.1 w.2, max w.1 w.2 - 1)
/-- a Giver to which ways have come -/
structure GvAt (K : PySem.W.Frag) (A : Ad) (H : Hp) (g : Gv) (n : Int) (ws : List (Int × Int)) (es : List Ent) (hs os : List Int) : Prop where
  nd : g.cells.Nodup
  n2 : 2 ≤ n
  n60 : n ≤ 60
  ins : H g.a = some (.ins A.c_Giver g.dx (gvF g.nt g.cm g.ln g.gv g.lv g.ow g.up))
  net : H g.nt = some (.tup [.str (Str.ofString "line"), .int n])
  come : ∃ ys, H g.cm = some (.lst ys) ∧ DpAll K (hid g.cells H) ys (ws.map dPair)
  lain : ∃ zs : List Addr, H g.ln = some (.lst (zs.map V.ref)) ∧ zs.length = es.length ∧ ∀ (k : Nat) z e, zs[k]? = some z → es[k]? = some e → z ∉ g.cells ∧ H z = some (.lst ((tiesI e.1).map V.int))
  given : H g.gv = some (.lst (hs.map V.int))
  lev : H g.lv = some (.lst (List.map V.int (es.map fun e => (e.2 : Int))))
  own : H g.ow = some (.lst (os.map V.int))
  up_ : UpAt K A H g.a g.up g.rs n es
theorem GvAt.same {H H' : Hp} {g : Gv} {n : Int} {ws : List (Int × Int)} {es : List Ent} {hs os : List Int} (h : GvAt K A H g n ws es hs os) (s : Same H H') : GvAt K A H' g n ws es hs os := by
  obtain ⟨h1, h2, h3, h4, h5, ⟨ys, h6, h6'⟩, ⟨zs, h7, h7', h7''⟩, h8, h9, h10, h11⟩ := h
  exact ⟨h1, h2, h3, s _ _ h4, s _ _ h5, ⟨ys, s _ _ h6, dpa_same (hid_mono s) h6'⟩, ⟨zs, s _ _ h7, h7', fun k z e hz he => ⟨(h7'' k z e hz he).1, s _ _ (h7'' k z e hz he).2⟩⟩, s _ _ h8, s _ _ h9, s _ _ h10, h11.same s⟩
/-- what is true of the ways, levels, hues and own ties -/
structure GvOk (n : Int) (ws : List (Int × Int)) (es : List Ent) (hs os : List Int) : Prop where
  good : GoodE es
  tie : es.map (·.1) = ws.map tieW
  wok : ∀ w ∈ ws, isWay (.line n) w.1 w.2
  lh : hs.length = es.length
  lo : os.length = es.length
  hue : ∀ (k : Nat) e h, es[k]? = some e → hs[k]? = some h → h ∈ lvHues e.2
  right : ∀ (j k : Nat) e f, j < k → es[j]? = some e → es[k]? = some f → meetI e.1 f.1 → hs[j]? ≠ hs[k]?
  own : ∀ (k : Nat) e t, es[k]? = some e → os[k]? = some t → OwnOf (es.take k) e.1 e.2 t
theorem tieW_ok {n a b : Int} (h : isWay (.line n) a b) : 0 ≤ (tieW (a, b)).1 ∧ (tieW (a, b)).1 ≤ (tieW (a, b)).2 ∧ (tieW (a, b)).2 < n - 1 := by
  obtain ⟨h1, h2, h3, h4, h5⟩ := h
  have h4' : a < n := h4
  have h5' : b < n := h5
  unfold tieW
  simp only
  omega
theorem snoc_get {α : Type} {l : List α} {x y : α} {k : Nat} (h : (l ++ [x])[k]? = some y) : (k < l.length ∧ l[k]? = some y) ∨ (k = l.length ∧ y = x) := by
  by_cases c : k < l.length
  · rw [List.getElem?_append_left c] at h
    exact .inl ⟨c, h⟩
  · have := (List.getElem?_eq_some_iff.mp h).1
    simp at this
    have e : k = l.length := by omega
    subst e
    rw [List.getElem?_append_right (Nat.le_refl _)] at h
    simp at h
    exact .inr ⟨rfl, h.symm⟩
theorem GvOk.more {n : Int} {ws : List (Int × Int)} {es : List Ent} {hs os : List Int} {a b h t : Int} {i : Nat} (o : GvOk n ws es hs os) (w : isWay (.line n) a b) (l : LevelOf es (tieW (a, b)) i) (hh : h ∈ lvHues i)
    (hr : ∀ (k : Nat) v, es[k]? = some v → meetI v.1 (tieW (a, b)) → hs[k]? ≠ some h) (ho : OwnOf es (tieW (a, b)) i t) : GvOk n (ws ++ [(a, b)]) (es ++ [(tieW (a, b), i)]) (hs ++ [h]) (os ++ [t]) := by
  obtain ⟨g, ti, wok, lh, lo, hue, right, own⟩ := o
  refine ⟨good_more g (tieW_ok w).2.1 l, by rw [List.map_append, List.map_append, ti]; rfl, ?_, by simp [lh], by simp [lo], ?_, ?_, ?_⟩
  · intro v hv
    rcases List.mem_append.mp hv with hv | hv
    · exact wok v hv
    · rw [List.mem_singleton.mp hv]; exact w
  · intro k e x he hx
    rcases snoc_get he with ⟨c, he⟩ | ⟨c, rfl⟩
    · rw [List.getElem?_append_left (by omega)] at hx
      exact hue k e x he hx
    · rcases snoc_get hx with ⟨d, _⟩ | ⟨_, rfl⟩
      · omega
      · exact hh
  · intro j k e f jk he hf m
    rcases snoc_get hf with ⟨c, hf⟩ | ⟨c, rfl⟩
    · rcases snoc_get he with ⟨d, he⟩ | ⟨d, _⟩
      · rw [List.getElem?_append_left (by omega), List.getElem?_append_left (by omega)]
        exact right j k e f jk he hf m
      · omega
    · rcases snoc_get he with ⟨d, he⟩ | ⟨d, _⟩
      · rw [List.getElem?_append_left (by omega)]
        have := hr j e he m
        rw [c, ← lh, List.getElem?_append_right (Nat.le_refl _)]
        simpa using this
      · omega
  · intro k e x he hx
    rcases snoc_get he with ⟨c, he⟩ | ⟨c, rfl⟩
    · rw [List.getElem?_append_left (by omega)] at hx
      rw [List.take_append_of_le_length (by omega)]
      exact own k e x he hx
    · rcases snoc_get hx with ⟨d, _⟩ | ⟨_, rfl⟩
      · omega
      · subst c
        rw [List.take_left]
        exact ho
theorem hid_comm (S T : List Addr) (H : Hp) : hid S (hid T H) = hid T (hid S H) := by
  funext b
  unfold hid
  split <;> split <;> rfl
theorem hid_under {S T : List Addr} {H H' : Hp} (s : Same (hid S H) (hid S H')) : Same (hid S (hid T H)) (hid S (hid T H')) := by
  rw [hid_comm S T H, hid_comm S T H']
  exact hid_mono s
/-- the hue of a way of the level that meets the way -/
def takenAt (es : List Ent) (hs : List Int) (i : Nat) (w : Int × Int) (k : Nat) : Option Int := match es[k]? with
  | some e => if e.2 = i ∧ meetI e.1 w then some (hs.getD k 0) else none
  | none => none
theorem lv_apart {i j : Nat} {h : Int} (i1 : 1 ≤ i) (j1 : 1 ≤ j) (hi : h ∈ lvHues i) (hj : h ∈ lvHues j) : i = j := by
  unfold lvHues at hi hj
  split at hi <;> split at hj <;> simp only [List.mem_cons, List.not_mem_nil, or_false] at hi hj <;> omega
theorem taken_fm (l ts : List Int) : l.filterMap (fun x => if x ∈ ts then none else some (V.int x)) = (l.filter fun x => decide (x ∉ ts)).map V.int := by
  induction l with
  | nil => rfl
  | cons x r ih =>
    by_cases c : x ∈ ts
    · rw [List.filterMap_cons, if_pos c, List.filter_cons, if_neg (by simpa using c)]; exact ih
    · rw [List.filterMap_cons, if_neg c, List.filter_cons, if_pos (by simpa using c), List.map_cons, ← ih]
theorem hue_found {n : Int} {ws : List (Int × Int)} {es : List Ent} {hs os : List Int} {w : Int × Int} {i m : Nat} (o : GvOk n ws es hs os) (w1 : w.1 ≤ w.2) (l : LevelOf es w i) (hm : m = es.length) :
    ∃ hue, hue ∈ lvHues i ∧ (∀ (k : Nat) v, es[k]? = some v → meetI v.1 w → hs[k]? ≠ some hue) ∧ atI (List.filterMap (fun x => if x ∈ (List.range m).filterMap (takenAt es hs i w) then none else some (V.int x)) (lvHues i)) 0 = some (.int hue) := by
  subst hm
  have inT : ∀ (k : Nat) v, es[k]? = some v → v.2 = i → meetI v.1 w → hs.getD k 0 ∈ (List.range es.length).filterMap (takenAt es hs i w) := fun k v hk hv hme => by
    rw [List.mem_filterMap]
    refine ⟨k, List.mem_range.mpr (List.getElem?_eq_some_iff.mp hk).1, ?_⟩
    unfold takenAt
    simp only [hk]
    rw [if_pos ⟨hv, hme⟩]
  have toT : ∀ x, x ∈ (List.range es.length).filterMap (takenAt es hs i w) → ∃ (k : Nat) (v : Int × Int), es[k]? = some (v, i) ∧ meetI v w ∧ hs.getD k 0 = x := fun x hx => by
    obtain ⟨k, hk, e⟩ := List.mem_filterMap.mp hx
    unfold takenAt at e
    split at e
    · rename_i v hv
      split at e
      · rename_i c
        obtain ⟨v1, v2⟩ := v
        obtain ⟨c1, c2⟩ := c
        simp only at c1
        subst c1
        exact ⟨k, v1, hv, c2, by simpa using e⟩
      · cases e
    · cases e
  rw [taken_fm]
  obtain ⟨f, hf, ff⟩ := free_hue (good_more o.good w1 l) hs
  generalize (List.range es.length).filterMap (takenAt es hs i w) = ts at inT toT
  have ne : f ∈ (lvHues i).filter fun x => decide (x ∉ ts) := by
    rw [List.mem_filter]
    refine ⟨hf, by
      simp only [decide_eq_true_eq]
      intro z
      obtain ⟨k, v, h1, h2, h3⟩ := toT f z
      exact ff k v h1 h2 h3⟩
  cases hL : (lvHues i).filter fun x => decide (x ∉ ts) with
  | nil => rw [hL] at ne; cases ne
  | cons h r =>
    have hm : h ∈ (lvHues i).filter fun x => decide (x ∉ ts) := by rw [hL]; exact List.mem_cons_self
    obtain ⟨hm1, hm2⟩ := List.mem_filter.mp hm
    simp only [decide_eq_true_eq] at hm2
    refine ⟨h, hm1, fun k v hk hme e => ?_, by
      have := at_int (ns := h :: r) (i := 0) (by decide) (by simp)
      rw [this]; rfl⟩
    by_cases c : v.2 = i
    · refine hm2 ?_
      have := inT k v hk c hme
      rwa [List.getD_eq_getElem?_getD, e] at this
    · exact c (lv_apart (good_pos o.good v (List.mem_of_getElem? hk)) l.1 (o.hue k v h hk e) hm1)
def pr_Giver_put (K : PySem.W.Frag) (A : Ad) (v0 v1 : V) (H : Hp) (Q : VK) (E : XK) : Prop := ∃ (g : Gv) (n : Int) (T : List Addr) (ws : List (Int × Int)) (es : List Ent) (hs os : List Int) (a b : Int), v0 = .ref g.a ∧ GvAt K A (hid T H) g n ws es hs os ∧ GvOk n ws es hs os ∧ (∀ x ∈ T, H x ≠ none) ∧ Dp K (hid g.cells H) v1 (dPair (a, b)) ∧ es.length ≤ 40 ∧ (¬ isWay (.line n) a b → ∀ d, H d = none → E (.ref A.c_NoWay) (some d) (upd H d (.xd [(Str.ofString "at", .non)]))) ∧ (isWay (.line n) a b → es.length = 40 → E (.ref A.c_TooMany) none H) ∧ (isWay (.line n) a b → es.length < 40 →
  ∀ (h : Int) (i : Nat) (t : Int) H', Same (hid g.cells H) (hid g.cells H') → LevelOf es (tieW (a, b)) i → i ≤ 41 → GvAt K A (hid T H') g n (ws ++ [(a, b)]) (es ++ [(tieW (a, b), i)]) (hs ++ [h]) (os ++ [t]) → GvOk n (ws ++ [(a, b)]) (es ++ [(tieW (a, b), i)]) (hs ++ [h]) (os ++ [t]) → Q (.int h) H')
def t_Giver_put (K : PySem.W.Frag) (A : Ad) (E : XK) : TS :=
  (tSeq (tIfS (tNot (tB (tCall (sp_is_way K) [] E0 (tCons (tFld K (tVar 0) "net") (tCons (tVar 1) tNil))))) (tRaiseO A.c_NoWay (spInit A.c_NoWay (Str.ofString "at")) (tCons (tC .non) tNil) E) tNext)
    (tSeq (tIfS (tTest (tOp rEq (tCB (rLen K) (tCons (tFld K (tVar 0) "come") tNil)) (tC (.int 40)))) (tRaiseP A.c_TooMany E) tNext)
    (tSeq (tAsg (tCall (sp_ties_on K) [] E0 (tCons (tFld K (tVar 0) "net") (tCons (tVar 1) tNil))) (gName 2))
    (tSeq (tAsg (tMeth A.c_Giver "level_for" (sp_Giver_level_for K A) [] E0 (tVar 0) (tCons (tVar 2) tNil)) (gName 3))
    (tSeq (tAsg (tLc (iRng1 (tCons (tCB (rLen K) (tCons (tFld K (tVar 0) "come") tNil)) tNil)) (gName 6) (tAnd (tTest (tOp rEq (tOp (rIxL K) (tFld K (tVar 0) "level") (tVar 6)) (tVar 3))) (tB (tCall (sp_meet K) [] E0 (tCons (tVar 2) (tCons (tOp (rIxL K) (tFld K (tVar 0) "lain") (tVar 6)) tNil))))) (tOp (rIxL K) (tFld K (tVar 0) "given") (tVar 6)) [6]) (gName 4))
    (tSeq (tAsg (tOp (rIxL K) (tLc (iList K (tCall (sp_hues_of K) [] E0 (tCons (tVar 3) tNil))) (gName 7) (tTest (tOp (rIn K true) (tVar 7) (tVar 4))) (tVar 7) [7]) (tC (.int 0))) (gName 5))
    (tSeq (tDrop (tBM K "list" rAppend (tFld K (tVar 0) "own") (tCons (tMeth A.c_Giver "own_for" (sp_Giver_own_for K A) [] E0 (tVar 0) (tCons (tVar 2) (tCons (tVar 3) tNil))) tNil)))
    (tSeq (tDrop (tMeth A.c_Giver "counted_in" (sp_Giver_counted_in K A) [] E0 (tVar 0) (tCons (tVar 2) (tCons (tVar 3) tNil))))
    (tSeq (tDrop (tBM K "list" rAppend (tFld K (tVar 0) "come") (tCons (tTup (tCons (tOp (rIxT K) (tVar 1) (tC (.int 0))) (tCons (tOp (rIxT K) (tVar 1) (tC (.int 1))) tNil))) tNil)))
    (tSeq (tDrop (tBM K "list" rAppend (tFld K (tVar 0) "lain") (tCons (tVar 2) tNil)))
    (tSeq (tDrop (tBM K "list" rAppend (tFld K (tVar 0) "given") (tCons (tVar 5) tNil)))
    (tSeq (tDrop (tBM K "list" rAppend (tFld K (tVar 0) "level") (tCons (tVar 3) tNil)))
    (tRet (tVar 5))))))))))))))
theorem pure_Giver_put (T : Txt K mg A) {v0 v1 : V} {H : Hp} {Q : VK} {E : XK} (h : pr_Giver_put K A v0 v1 H Q E) : t_Giver_put K A E ⟨fun _ H' => Q .non H', Q, fun _ _ => False, fun _ _ => False⟩ [some v0, some v1, none, none, none, none, none, none] H := by
  obtain ⟨g, n, TT, ws, es, hs, os, a, b, rfl, gaT, gok, hT, dw, le40, qn, qt, q⟩ := h
  have ga := gaT.same (hid_same _ _)
  have dw0 := dp_same (hid_same _ _) dw
  obtain ⟨pw, rfl, hw⟩ := dp_pair dw
  have inT : ∀ x o, hid TT H x = some o → x ∉ TT := fun x o h => (hid_some h).1
  have newT : ∀ x, H x = none → x ∉ TT := fun x h z => hT x z h
  have dnet : ∀ H', Same H H' → Dp K H' (.ref g.nt) (Net.line n).d := fun H' s => .tup (stp (s _ _ ga.net)) (.cons (.str _) (.cons (.int _) .nil))
  have nok : (Net.line n).ok := ⟨ga.n2, ga.n60⟩
  obtain ⟨ys, ecm, dys⟩ := ga.come
  obtain ⟨zs, eln, lzs, ezs⟩ := ga.lain
  have ly : ys.length = es.length := by
    have e1 := dpa_len dys
    have e2 := congrArg List.length gok.tie
    simp only [List.length_map] at e1 e2
    omega
  unfold t_Giver_put
  wtm_at "s"
  refine k_gF ga.ins T.K_Giver T.N_Giver_net rfl ?_
  wtm_at "s"
  refine ⟨_, _, rfl, .line n, a, b, dnet _ (Same.refl _), dw0, ?_⟩
  wtm_at "s"
  refine k_itn (fun wno => ?_) (fun wok => ?_)
  · refine k_raiseO (f := Str.ofString "at") (v := .non) (fun R h => ?_) (fun d nd => qn wno d nd)
    wtm_at "s"; exact h
  wtm_at "s"
  refine k_gF ga.ins T.K_Giver T.N_Giver_come rfl ?_
  by_cases c40 : es.length = 40
  · wtm_at "s"
    exact qt wok c40
  have le : es.length < 40 := by omega
  replace q := q wok le
  obtain ⟨w0, w1, w2⟩ := tieW_ok wok
  wtm_at "s"
  refine k_gF ga.ins T.K_Giver T.N_Giver_net rfl ?_
  wtm_at "s"
  refine ⟨_, _, rfl, .line n, a, b, dnet _ (Same.refl _), dw0, nok, wok, fun p ns H1 np s1 e1 tn => ?_⟩
  obtain rfl := line_ties tn
  change H1 p = some (.lst (List.map V.int (tiesI (tieW (a, b))))) at e1
  wtm_at "s"
  refine k_mF (s1 _ _ ga.ins) rfl ?_
  wtm_at "s"
  refine ⟨_, _, rfl, g.a, g.up, p, g.rs, n, es, tieW (a, b), rfl, rfl, ga.up_.same s1, sl e1, w0, w1, w2, ga.n60, by omega, fun i H2 lvl hi s2 => ?_⟩
  have s02 := s1.trans s2
  have i1 := lvl.1
  have e2 := s2 _ _ e1
  wtm_at "s"
  refine k_gF (s02 _ _ ga.ins) T.K_Giver T.N_Giver_come rfl ?_
  wtm_at "s"
  refine lc_pureR (by omega) (fun k => (takenAt es hs i (tieW (a, b)) k).map V.int) ?_ (fun D H3 nD s3 eD => ?_)
  · intro k H' hk sm R R0 h1 h2
    have hk' : k < es.length := by omega
    obtain ⟨e, he⟩ : ∃ e, es[k]? = some e := ⟨es[k], List.getElem?_eq_getElem hk'⟩
    obtain ⟨z, hz⟩ : ∃ z, zs[k]? = some z := ⟨zs[k]'(by omega), List.getElem?_eq_getElem (by omega)⟩
    obtain ⟨_, ez⟩ := ezs k z e hz he
    have s0 := s02.trans sm
    simp only [takenAt, he] at h1 h2
    rw [Int.zero_add]
    wtm_at "s"
    refine k_gF (s0 _ _ ga.ins) T.K_Giver T.N_Giver_level rfl ?_
    wtm_at "s"
    refine k_ixN (sl (s0 _ _ ga.lev)) (by rw [List.getElem?_map, he]; rfl) ?_
    wtm_at "s"
    refine k_it (fun c1 => ?_) (fun c1 => ?_)
    · wtm_at "s"
      refine k_gF (s0 _ _ ga.ins) T.K_Giver T.N_Giver_lain rfl ?_
      wtm_at "s"
      refine k_ixL (sl (s0 _ _ eln)) (atI_nat (by rw [List.getElem?_map, hz]; rfl)) ?_
      wtm_at "s"
      have we := (gok.good k e.1 e.2 he).1
      refine ⟨_, _, rfl, p, z, tieW (a, b), e.1, rfl, rfl, sl ((s2.trans sm) _ _ e1), sl (s0 _ _ ez), w1, we, ?_⟩
      wtm_at "s"
      refine k_it (fun c2 => ?_) (fun c2 => ?_)
      · wtm_at "s"
        refine k_gF (s0 _ _ ga.ins) T.K_Giver T.N_Giver_given rfl ?_
        wtm_at "s"
        refine k_ixI (sl (s0 _ _ ga.given)) (by omega) (by have := gok.lh; omega) ?_
        rw [Int.toNat_natCast]
        have c1' : (e.2 : Int) = i := c1
        exact h1 _ (by rw [if_pos ⟨by omega, by unfold meetI; omega⟩]; rfl)
      · exact h2 (by rw [if_neg fun z => c2 (by have := z.2; unfold meetI at this; omega)]; rfl)
    · exact h2 (by rw [if_neg fun z => c1 (show (e.2 : Int) = i by have := z.1; omega)]; rfl)
  rw [← List.map_filterMap, Int.toNat_natCast] at eD
  wtm_at "s"
  refine ⟨_, rfl, i, rfl, i1, fun p4 H4 np4 s4 e4 => ?_⟩
  wtm_at "s"
  refine lc_pure (sl e4) (lvHues i) (by simp) (by unfold lvHues; split <;> simp) (fun x => if x ∈ (List.range ys.length).filterMap (takenAt es hs i (tieW (a, b))) then none else some (V.int x)) ?_ (fun D2 H5 nD2 s5 eD2 => ?_)
  · intro j x y H' hx hy sm R R0 h1 h2
    rw [List.getElem?_map, hy] at hx
    cases hx
    wtm_at "s"
    refine k_itn (fun c => ?_) (fun c => ?_)
    · wtm_at "s"
      exact h1 _ (if_neg c)
    · exact h2 (if_pos c)
  obtain ⟨hue, hh, hfree, hat0⟩ := hue_found gok w1 lvl ly
  wtm_at "s"
  refine k_ixL (sl eD2) hat0 ?_
  have s25 := s3.trans (s4.trans s5)
  have s05 := s02.trans s25
  have e5 := s25 _ _ e2
  clear hat0 eD2 nD2 eD e4 np4 nD
  wtm_at "s"
  refine k_gF (s05 _ _ ga.ins) T.K_Giver T.N_Giver_own rfl ?_
  refine k_tyL (sl (s05 _ _ ga.own)) ?_
  wtm_at "s"
  refine k_mF (s05 _ _ ga.ins) rfl ?_
  wtm_at "s"
  refine ⟨_, _, _, rfl, g.a, g.up, p, g.rs, n, es, tieW (a, b), i, rfl, rfl, rfl, ga.up_.same s05, sl e5, w0, w1, w2, ga.n60, by omega, lvl, by omega, good_pos gok.good, fun t ho => ?_⟩
  wtm_at "s"
  refine k_append (s05 _ _ ga.own) (by rw [List.length_map]; have := gok.lo; omega) ?_
  wtm_at "s"
  have nd := ga.nd
  unfold Gv.cells at nd
  simp only [List.nodup_cons, List.nodup_append, List.mem_append, List.mem_cons, List.not_mem_nil, or_false, not_or, not_false_eq_true, List.nodup_nil, and_true] at nd
  obtain ⟨⟨u_rs, u_ow, u_lv, u_gv, u_ln, u_cm, u_nt, u_a⟩, nrs, ⟨⟨ow_lv, ow_gv, ow_ln, ow_cm, ow_nt, ow_a⟩, ⟨lv_gv, lv_ln, lv_cm, lv_nt, lv_a⟩, ⟨gv_ln, gv_cm, gv_nt, gv_a⟩, ⟨ln_cm, ln_nt, ln_a⟩, ⟨cm_nt, cm_a⟩, nt_a⟩, dis⟩ := nd
  have ow_rs : g.ow ∉ g.rs := fun z => dis _ z _ (.inl rfl) rfl
  have lv_rs : g.lv ∉ g.rs := fun z => dis _ z _ (.inr (.inl rfl)) rfl
  have gv_rs : g.gv ∉ g.rs := fun z => dis _ z _ (.inr (.inr (.inl rfl))) rfl
  have ln_rs : g.ln ∉ g.rs := fun z => dis _ z _ (.inr (.inr (.inr (.inl rfl)))) rfl
  have cm_rs : g.cm ∉ g.rs := fun z => dis _ z _ (.inr (.inr (.inr (.inr (.inl rfl))))) rfl
  have nt_rs : g.nt ∉ g.rs := fun z => dis _ z _ (.inr (.inr (.inr (.inr (.inr (.inl rfl)))))) rfl
  have a_rs : g.a ∉ g.rs := fun z => dis _ z _ (.inr (.inr (.inr (.inr (.inr (.inr rfl)))))) rfl
  have inC : ∀ x o, hid TT H x = some o → H x ≠ none := fun x o h => by rw [hid_same _ _ _ _ h]; simp
  have pC : p ∉ g.cells := fun z => by
    unfold Gv.cells at z
    simp only [List.mem_append, List.mem_cons, List.not_mem_nil, or_false] at z
    rcases z with rfl | z | rfl | rfl | rfl | rfl | rfl | rfl | rfl
    · rw [ga.up_.up_] at np; cases np
    · obtain ⟨j, hj⟩ := List.mem_iff_getElem?.mp z
      rw [ga.up_.row j p hj] at np; cases np
    · rw [ga.own] at np; cases np
    · rw [ga.lev] at np; cases np
    · rw [ga.given] at np; cases np
    · rw [eln] at np; cases np
    · rw [ecm] at np; cases np
    · rw [ga.net] at np; cases np
    · rw [ga.ins] at np; cases np
  have cin : ∀ x, x ∈ g.rs ∨ x = g.up ∨ x = g.ow ∨ x = g.lv ∨ x = g.gv ∨ x = g.ln ∨ x = g.cm ∨ x = g.nt ∨ x = g.a → x ∈ g.cells := fun x h => by
    unfold Gv.cells
    simp only [List.mem_append, List.mem_cons, List.not_mem_nil, or_false]
    rcases h with h | h | h
    · exact .inr (.inl h)
    · exact .inl h
    · exact .inr (.inr h)
  have p_ow : p ≠ g.ow := fun e => pC (cin p (.inr (.inr (.inl e))))
  have p_rs : p ∉ g.rs := fun e => pC (cin p (.inl e))
  have mid : UpAt K A (upd H5 g.ow (.lst (List.map V.int os ++ [.int t]))) g.a g.up g.rs n es := by
    obtain ⟨⟨dx, fs, h1, h2⟩, h3, h4, h5⟩ := ga.up_.same s05
    refine ⟨⟨dx, fs, ?_, h2⟩, ?_, h4, fun j r hr => ?_⟩
    · rw [upd_ne (Ne.symm ow_a)]; exact h1
    · rw [upd_ne u_ow]; exact h3
    · rw [upd_ne (fun e => ow_rs (by rw [← e]; exact List.mem_of_getElem? hr))]; exact h5 j r hr
  have keep6 : ∀ x o, x ≠ g.ow → H5 x = some o → upd H5 g.ow (.lst (List.map V.int os ++ [.int t])) x = some o := fun x o n h => by rw [upd_ne n]; exact h
  have S6 : Same (hid g.cells H) (hid g.cells (upd H5 g.ow (.lst (List.map V.int os ++ [.int t])))) := by
    rw [hid_upd (cin _ (.inr (.inr (.inl rfl))))]; exact hid_mono s05
  have e6o : upd H5 g.ow (.lst (List.map V.int os ++ [.int t])) g.ow = some (.lst (List.map V.int (os ++ [t]))) := by rw [upd_same, List.map_append]; rfl
  generalize upd H5 g.ow (.lst (List.map V.int os ++ [.int t])) = H6 at mid keep6 S6 e6o ⊢
  refine k_mF (keep6 _ _ (Ne.symm ow_a) (s05 _ _ ga.ins)) rfl ?_
  wtm_at "s"
  refine ⟨_, _, _, rfl, g.a, g.up, p, g.rs, n, es, tieW (a, b), i, rfl, rfl, rfl, mid, keep6 _ _ p_ow e5, a_rs, u_rs, p_rs, nrs, w0, w1, w2, ga.n60, by omega, by omega, fun H7 S7 up7 => ?_⟩
  have keep7 : ∀ x o, x ≠ g.ow → x ∉ g.rs → H5 x = some o → H7 x = some o := fun x o n1 n2 h => keeps S7 (keep6 x o n1 h) n2
  have S07 : Same (hid g.cells H) (hid g.cells H7) := S6.trans (hid_more S7 fun x hx => cin x (.inl hx))
  wtm_at "s"
  refine k_gF (keep7 _ _ (Ne.symm ow_a) a_rs (s05 _ _ ga.ins)) T.K_Giver T.N_Giver_come rfl ?_
  have ecm7 := keep7 _ _ (Ne.symm ow_cm) cm_rs (s05 _ _ ecm)
  refine k_tyL (sl ecm7) ?_
  have hw7 : SqT K H7 pw [.int a, .int b] := same_seqT (S07.trans (hid_same _ _)) hw
  wtm_at "s"
  refine kT (by simp) (fun r H8 nr s8 er => ?_)
  have kp8 : ∀ x o, x ≠ g.ow → x ∉ g.rs → H5 x = some o → H8 x = some o := fun x o n1 n2 h => s8 _ _ (keep7 x o n1 n2 h)
  have S08 := S07.trans (hid_mono (S := g.cells) s8)
  have ecm8 := s8 _ _ ecm7
  wtm_at "s"
  refine k_append ecm8 (by omega) ?_
  have ins8 := kp8 _ _ (Ne.symm ow_a) a_rs (s05 _ _ ga.ins)
  have eln8 := kp8 _ _ (Ne.symm ow_ln) ln_rs (s05 _ _ eln)
  have egv8 := kp8 _ _ (Ne.symm ow_gv) gv_rs (s05 _ _ ga.given)
  have elv8 := kp8 _ _ (Ne.symm ow_lv) lv_rs (s05 _ _ ga.lev)
  wtm_at "s"
  refine k_gF (by rw [upd_ne (Ne.symm cm_a)]; exact ins8) T.K_Giver T.N_Giver_lain rfl ?_
  refine k_tyL (sl (show upd H8 g.cm (.lst (ys ++ [.ref r])) g.ln = _ by rw [upd_ne ln_cm]; exact eln8)) ?_
  wtm_at "s"
  refine k_append (show upd H8 g.cm (.lst (ys ++ [.ref r])) g.ln = _ by rw [upd_ne ln_cm]; exact eln8) (by rw [List.length_map]; omega) ?_
  wtm_at "s"
  refine k_gF (by rw [upd_ne (Ne.symm ln_a), upd_ne (Ne.symm cm_a)]; exact ins8) T.K_Giver T.N_Giver_given rfl ?_
  have x1 : upd (upd H8 g.cm (.lst (ys ++ [.ref r]))) g.ln (.lst (zs.map V.ref ++ [.ref p])) g.gv = some (.lst (hs.map V.int)) := by rw [upd_ne gv_ln, upd_ne gv_cm]; exact egv8
  refine k_tyL (sl x1) ?_
  wtm_at "s"
  refine k_append x1 (by rw [List.length_map]; have := gok.lh; omega) ?_
  wtm_at "s"
  refine k_gF (by rw [upd_ne (Ne.symm gv_a), upd_ne (Ne.symm ln_a), upd_ne (Ne.symm cm_a)]; exact ins8) T.K_Giver T.N_Giver_level rfl ?_
  have x2 : upd (upd (upd H8 g.cm (.lst (ys ++ [.ref r]))) g.ln (.lst (zs.map V.ref ++ [.ref p]))) g.gv (.lst (hs.map V.int ++ [.int hue])) g.lv = some (.lst (List.map V.int (es.map fun e => (e.2 : Int)))) := by rw [upd_ne lv_gv, upd_ne lv_ln, upd_ne lv_cm]; exact elv8
  refine k_tyL (sl x2) ?_
  wtm_at "s"
  refine k_append x2 (by rw [List.length_map, List.length_map]; omega) ?_
  wtm_at "s"
  have fin : ∀ x o, x ≠ g.cm → x ≠ g.ln → x ≠ g.gv → x ≠ g.lv → H8 x = some o → upd (upd (upd (upd H8 g.cm (.lst (ys ++ [.ref r]))) g.ln (.lst (zs.map V.ref ++ [.ref p]))) g.gv (.lst (hs.map V.int ++ [.int hue]))) g.lv (.lst (List.map V.int (es.map fun e => (e.2 : Int)) ++ [.int i])) x = some o := fun x o n1 n2 n3 n4 h => by
    rw [upd_ne n4, upd_ne n3, upd_ne n2, upd_ne n1]; exact h
  have f_cm : upd (upd (upd (upd H8 g.cm (.lst (ys ++ [.ref r]))) g.ln (.lst (zs.map V.ref ++ [.ref p]))) g.gv (.lst (hs.map V.int ++ [.int hue]))) g.lv (.lst (List.map V.int (es.map fun e => (e.2 : Int)) ++ [.int i])) g.cm = some (.lst (ys ++ [.ref r])) := by
    rw [upd_ne (Ne.symm lv_cm), upd_ne (Ne.symm gv_cm), upd_ne (Ne.symm ln_cm), upd_same]
  have f_ln : upd (upd (upd (upd H8 g.cm (.lst (ys ++ [.ref r]))) g.ln (.lst (zs.map V.ref ++ [.ref p]))) g.gv (.lst (hs.map V.int ++ [.int hue]))) g.lv (.lst (List.map V.int (es.map fun e => (e.2 : Int)) ++ [.int i])) g.ln = some (.lst ((zs ++ [p]).map V.ref)) := by
    rw [upd_ne (Ne.symm lv_ln), upd_ne (Ne.symm gv_ln), upd_same, List.map_append]; rfl
  have f_gv : upd (upd (upd (upd H8 g.cm (.lst (ys ++ [.ref r]))) g.ln (.lst (zs.map V.ref ++ [.ref p]))) g.gv (.lst (hs.map V.int ++ [.int hue]))) g.lv (.lst (List.map V.int (es.map fun e => (e.2 : Int)) ++ [.int i])) g.gv = some (.lst ((hs ++ [hue]).map V.int)) := by
    rw [upd_ne (Ne.symm lv_gv), upd_same, List.map_append]; rfl
  have f_lv : upd (upd (upd (upd H8 g.cm (.lst (ys ++ [.ref r]))) g.ln (.lst (zs.map V.ref ++ [.ref p]))) g.gv (.lst (hs.map V.int ++ [.int hue]))) g.lv (.lst (List.map V.int (es.map fun e => (e.2 : Int)) ++ [.int i])) g.lv = some (.lst (List.map V.int ((es ++ [(tieW (a, b), i)]).map fun e => (e.2 : Int)))) := by
    rw [upd_same, List.map_append, List.map_append]; rfl
  have SF : Same (hid g.cells H) (hid g.cells (upd (upd (upd (upd H8 g.cm (.lst (ys ++ [.ref r]))) g.ln (.lst (zs.map V.ref ++ [.ref p]))) g.gv (.lst (hs.map V.int ++ [.int hue]))) g.lv (.lst (List.map V.int (es.map fun e => (e.2 : Int)) ++ [.int i])))) := by
    rw [hid_upd (cin _ (.inr (.inr (.inr (.inl rfl))))), hid_upd (cin _ (.inr (.inr (.inr (.inr (.inl rfl)))))), hid_upd (cin _ (.inr (.inr (.inr (.inr (.inr (.inl rfl))))))), hid_upd (cin _ (.inr (.inr (.inr (.inr (.inr (.inr (.inl rfl)))))))) ]
    exact S08
  generalize upd (upd (upd (upd H8 g.cm (.lst (ys ++ [.ref r]))) g.ln (.lst (zs.map V.ref ++ [.ref p]))) g.gv (.lst (hs.map V.int ++ [.int hue]))) g.lv (.lst (List.map V.int (es.map fun e => (e.2 : Int)) ++ [.int i])) = HF at fin f_cm f_ln f_gv f_lv SF ⊢
  have rC : r ∉ g.cells := fun z => by
    have key : ∀ x o, H7 x = some o → r ≠ x := fun x o h e => by rw [e, h] at nr; cases nr
    unfold Gv.cells at z
    simp only [List.mem_append, List.mem_cons, List.not_mem_nil, or_false] at z
    rcases z with z | z | z | z | z | z | z | z | z
    · exact key _ _ up7.up_ z
    · obtain ⟨j, hj⟩ := List.mem_iff_getElem?.mp z
      exact key _ _ (up7.row j r hj) rfl
    · exact key _ _ (keeps S7 e6o ow_rs) z
    · exact key _ _ (keep7 _ _ (Ne.symm ow_lv) lv_rs (s05 _ _ ga.lev)) z
    · exact key _ _ (keep7 _ _ (Ne.symm ow_gv) gv_rs (s05 _ _ ga.given)) z
    · exact key _ _ (keep7 _ _ (Ne.symm ow_ln) ln_rs (s05 _ _ eln)) z
    · exact key _ _ ecm7 z
    · exact key _ _ (keep7 _ _ (Ne.symm ow_nt) nt_rs (s05 _ _ ga.net)) z
    · exact key _ _ (keep7 _ _ (Ne.symm ow_a) a_rs (s05 _ _ ga.ins)) z
  have notC : ∀ x o, x ∉ g.cells → H5 x = some o → HF x = some o := fun x o nx h => fin x o (fun e => nx (cin x (.inr (.inr (.inr (.inr (.inr (.inr (.inl e)))))))))
    (fun e => nx (cin x (.inr (.inr (.inr (.inr (.inr (.inl e)))))))) (fun e => nx (cin x (.inr (.inr (.inr (.inr (.inl e))))))) (fun e => nx (cin x (.inr (.inr (.inr (.inl e)))))) (kp8 x o (fun e => nx (cin x (.inr (.inr (.inl e))))) (fun e => nx (cin x (.inl e))) h)
  have erF : HF r = some (.tup [.int a, .int b]) := fin r _ (fun e => rC (cin r (.inr (.inr (.inr (.inr (.inr (.inr (.inl e)))))))))
    (fun e => rC (cin r (.inr (.inr (.inr (.inr (.inr (.inl e)))))))) (fun e => rC (cin r (.inr (.inr (.inr (.inr (.inl e))))))) (fun e => rC (cin r (.inr (.inr (.inr (.inl e)))))) er
  have r0 : H r = none := by
    have : hid g.cells H7 r = none := by rw [hid_ne rC]; exact nr
    have := S07.free this
    rwa [hid_ne rC] at this
  have tT : ∀ x o, x ∉ TT → HF x = some o → hid TT HF x = some o := fun x o n h => by rw [hid_ne n]; exact h
  obtain ⟨ysT, ecmT, dysT⟩ := gaT.come
  obtain ⟨zsT, elnT, lzsT, ezsT⟩ := gaT.lain
  obtain rfl : ys = ysT := by
    have := (hid_same _ _ _ _ ecmT).symm.trans ecm
    simpa using this.symm
  obtain rfl : zs = zsT := by
    have e := (hid_same _ _ _ _ elnT).symm.trans eln
    have e2 : zsT.map V.ref = zs.map V.ref := by simpa using e
    exact (List.map_inj_right (fun x y h => by cases h; rfl)).mp e2.symm
  refine q hue i t HF SF lvl (by omega) ⟨ga.nd, ga.n2, ga.n60, tT _ _ (inT _ _ gaT.ins) ?_, tT _ _ (inT _ _ gaT.net) ?_, ⟨ys ++ [.ref r], tT _ _ (inT _ _ ecmT) f_cm, ?_⟩, ⟨zs ++ [p], tT _ _ (inT _ _ elnT) f_ln, by simp [lzs], ?_⟩, tT _ _ (inT _ _ gaT.given) f_gv, tT _ _ (inT _ _ gaT.lev) f_lv, tT _ _ (inT _ _ gaT.own) ?_, ?_⟩ (gok.more wok lvl hh hfree ho)
  · exact fin _ _ (Ne.symm cm_a) (Ne.symm ln_a) (Ne.symm gv_a) (Ne.symm lv_a) ins8
  · exact fin _ _ (Ne.symm cm_nt) (Ne.symm ln_nt) (Ne.symm gv_nt) (Ne.symm lv_nt) (kp8 _ _ (Ne.symm ow_nt) nt_rs (s05 _ _ ga.net))
  · rw [List.map_append]
    refine dpa_app (dpa_same (hid_under SF) dysT) (.cons (dp_of_pair (stp ?_)) .nil)
    rw [hid_ne rC]
    exact tT _ _ (newT _ r0) erF
  · intro k z e hz he
    rcases snoc_get hz with ⟨c, hz⟩ | ⟨c, rfl⟩
    · rw [List.getElem?_append_left (by omega)] at he
      obtain ⟨z1, z2⟩ := ezsT k z e hz he
      exact ⟨z1, tT _ _ (inT _ _ z2) (notC z _ z1 (s05 _ _ (ezs k z e hz he).2))⟩
    · rcases snoc_get he with ⟨d, _⟩ | ⟨_, rfl⟩
      · omega
      · exact ⟨pC, tT _ _ (newT _ np) (notC z _ pC e5)⟩
  · exact fin _ _ ow_cm ow_ln ow_gv ow_lv (s8 _ _ (keeps S7 e6o ow_rs))
  · obtain ⟨⟨dx, fs, h1, h2⟩, h3, h4, h5⟩ := up7
    refine ⟨⟨dx, fs, tT _ _ (inT _ _ gaT.ins) (fin _ _ (Ne.symm cm_a) (Ne.symm ln_a) (Ne.symm gv_a) (Ne.symm lv_a) (s8 _ _ h1)), h2⟩, tT _ _ (inT _ _ gaT.up_.up_) (fin _ _ u_cm u_ln u_gv u_lv (s8 _ _ h3)), h4, fun j x hx => ?_⟩
    have hr := List.mem_of_getElem? hx
    exact tT _ _ (inT _ _ (gaT.up_.row j x hx)) (fin _ _ (fun e => cm_rs (e ▸ hr)) (fun e => ln_rs (e ▸ hr)) (fun e => gv_rs (e ▸ hr)) (fun e => lv_rs (e ▸ hr)) (s8 _ _ (h5 j x hx)))
abbrev sp_Giver_put (K : PySem.W.Frag) (A : Ad) : Sp := fun vs H Q E => ∃ v0 v1, vs = [v0, v1] ∧ pr_Giver_put K A v0 v1 H Q E
theorem ok_Giver_put (T : Txt K mg A) : FnOk P w K mg base (L2.CX P w) 3 A.a_Giver_put A.d_Giver_put ["self", "way"] (sp_Giver_put K A) := by
  refine T.F_Giver_put.okX sc_Giver_put (fun vs H Q E h => by obtain ⟨v0, v1, rfl, _⟩ := h; rfl) (fun cdv A0 outer s H vs Q E hr h => ?_)
  obtain ⟨v0, v1, rfl, h⟩ := h
  exact ⟨t_Giver_put K A E, (pss_cons (ps_if (pt_not (pt_val (pe_call (ok_is_way T) (hr.mono (by decide)) (by rfl) T.g_is_way T.F_is_way.kp T.b_is_way .nil pass0 (pa_cons (pe_fld (pv 0) (by rfl)) (pa_cons (pv 1) pa_nil))))) (pss_one (ps_raise rfl (takes_of rfl rfl rfl rfl) (pmk_oex T.o_NoWay T.in_NoWay T.ti_NoWay (ok_init_NoWay T) (hr.mono (by decide)) T.bi_NoWay .nil pass0 (by rfl) T.k_NoWay (pa_cons pe_non pa_nil)))) pss_nil)
      (pss_cons (ps_if (pt_cmpR op_eq (pe_callB q_len (by rfl) T.z_len (by decide +kernel) (pa_cons (pe_fld (pv 0) (by rfl)) pa_nil)) (pe_glob (v := .int 40) (by rfl) T.c_MOST_WAYS ⟨_, rfl⟩) (nomark _)) (pss_one (ps_raise rfl (takes_of rfl rfl rfl rfl) (pmk_own PySem.F.excBase_ValueError T.e_TooMany T.k_TooMany T.p_TooMany (raises_own T.x_TooMany.hs T.t_TooMany) (by rfl)))) pss_nil)
      (pss_cons (ps_set (i := 2) sc_Giver_put.nd rfl (Or.inr rfl) (pe_call (ok_ties_on T) (hr.mono (by decide)) (by rfl) T.g_ties_on T.F_ties_on.kp T.b_ties_on .nil pass0 (pa_cons (pe_fld (pv 0) (by rfl)) (pa_cons (pv 1) pa_nil))))
      (pss_cons (ps_set (i := 3) sc_Giver_put.nd rfl (Or.inr rfl) (pe_meth (pv 0) T.K_Giver T.Me_Giver_level_for (ok_Giver_level_for T) (hr.mono (by decide)) T.b_Giver_level_for .nil pass0 (pa_cons (pv 2) pa_nil)))
      (pss_cons (ps_set (i := 4) sc_Giver_put.nd rfl (Or.inr rfl) (pe_lc (own := [("k", 6)]) (by rfl) sc_Giver_put.nd (pi_range1 (by rfl) T.z_range (pa_cons (pe_callB q_len (by rfl) T.z_len (by decide +kernel) (pa_cons (pe_fld (pv 0) (by rfl)) pa_nil)) pa_nil)) (blkOk_by (own := [("k", 6)]) (N := ["self", "way", "ties", "i", "taken", "hue", "k", "one"]) (sc := defScope s_Giver_put) (by decide +kernel)) (fun _ _ _ _ _ => (pg_name (i := 6) sc_Giver_put.nd rfl (Or.inl rfl))) (fun _ _ _ _ _ => (pts_one (PW.pt (pw_and (pt_cmpR op_eq (pe_ix ix_list (pe_fld (pv 0) (by rfl)) (pv 6) (fun _ _ => rfl)) (pv 3) (nomark _)) (pw_and1 (pt_val (pe_call (ok_meet T) (hr.mono (by decide)) (by rfl) T.g_meet T.F_meet.kp T.b_meet .nil pass0 (pa_cons (pv 2) (pa_cons (pe_ix ix_list (pe_fld (pv 0) (by rfl)) (pv 6) (fun _ _ => rfl)) pa_nil))))))))) (fun _ _ _ _ _ => (pe_ix ix_list (pe_fld (pv 0) (by rfl)) (pv 6) (fun _ _ => rfl)))))
      (pss_cons (ps_set (i := 5) sc_Giver_put.nd rfl (Or.inl rfl) (pe_ix ix_list (pe_lc (own := [("one", 7)]) (by rfl) sc_Giver_put.nd (pi_list (pe_call (ok_hues_of T) (hr.mono (by decide)) (by rfl) T.g_hues_of T.F_hues_of.kp T.b_hues_of .nil pass0 (pa_cons (pv 3) pa_nil))) (blkOk_by (own := [("one", 7)]) (N := ["self", "way", "ties", "i", "taken", "hue", "k", "one"]) (sc := defScope s_Giver_put) (by decide +kernel)) (fun _ _ _ _ _ => (pg_name (i := 7) sc_Giver_put.nd rfl (Or.inl rfl))) (fun _ _ _ _ _ => (pts_one (pt_cmpR op_notIn_seq (pv 7) (pv 4) (by rfl)))) (fun _ _ _ _ _ => (pv 7))) pe_int (fun _ _ => rfl)))
      (pss_cons (ps_expr (pe_bm PySem.F.plainAttrs_list PySem.F.slot_list_append PySem.F.type_list_append mt_append (pe_fld (pv 0) (by rfl)) (pa_cons (pe_meth (pv 0) T.K_Giver T.Me_Giver_own_for (ok_Giver_own_for T) (hr.mono (by decide)) T.b_Giver_own_for .nil pass0 (pa_cons (pv 2) (pa_cons (pv 3) pa_nil))) pa_nil)))
      (pss_cons (ps_expr (pe_meth (pv 0) T.K_Giver T.Me_Giver_counted_in (ok_Giver_counted_in T) (hr.mono (by decide)) T.b_Giver_counted_in .nil pass0 (pa_cons (pv 2) (pa_cons (pv 3) pa_nil))))
      (pss_cons (ps_expr (pe_bm PySem.F.plainAttrs_list PySem.F.slot_list_append PySem.F.type_list_append mt_append (pe_fld (pv 0) (by rfl)) (pa_cons (pe_tup (pa_cons (pe_ix ix_tup (pv 1) pe_int (fun _ _ => rfl)) (pa_cons (pe_ix ix_tup (pv 1) pe_int (fun _ _ => rfl)) pa_nil))) pa_nil)))
      (pss_cons (ps_expr (pe_bm PySem.F.plainAttrs_list PySem.F.slot_list_append PySem.F.type_list_append mt_append (pe_fld (pv 0) (by rfl)) (pa_cons (pv 2) pa_nil)))
      (pss_cons (ps_expr (pe_bm PySem.F.plainAttrs_list PySem.F.slot_list_append PySem.F.type_list_append mt_append (pe_fld (pv 0) (by rfl)) (pa_cons (pv 5) pa_nil)))
      (pss_cons (ps_expr (pe_bm PySem.F.plainAttrs_list PySem.F.slot_list_append PySem.F.type_list_append mt_append (pe_fld (pv 0) (by rfl)) (pa_cons (pv 3) pa_nil)))
      (pss_one (ps_ret (pv 5))))))))))))))), pure_Giver_put T h⟩


def pr_shows (K : PySem.W.Frag) (A : Ad) (v0 v1 v2 : V) (H : Hp) (Q : VK) (E : XK) : Prop := ∃ N : Net, Dp K H v0 N.d ∧ N.ok ∧ N.kind ≠ Str.ofString "line" ∧ E (.ref A.c_OtherNet) none H
def t_shows (K : PySem.W.Frag) (A : Ad) (E : XK) : TS :=
  (tSeq (tDrop (tCall (sp_must_be_kind K A) [] E (tCons (tVar 0) (tCons (tC (.str (Str.ofString "line"))) tNil))))
    (tSeq tNever
    (tSeq tNever
    (tSeq tNever
    (tSeq tNever
    tNever)))))
theorem pure_shows {v0 v1 v2 : V} {H : Hp} {Q : VK} {E : XK} (h : pr_shows K A v0 v1 v2 H Q E) : t_shows K A E ⟨fun _ H' => Q .non H', Q, fun _ _ => False, fun _ _ => False⟩ [some v0, some v1, some v2, none, none, none] H := by
  obtain ⟨N, hd, ok, h⟩ := h
  unfold t_shows
  wtm_at "s"
  exact ⟨_, _, rfl, N, _, rfl, hd, ok, .inl h⟩
abbrev sp_shows (K : PySem.W.Frag) (A : Ad) : Sp := fun vs H Q E => ∃ v0 v1 v2, vs = [v0, v1, v2] ∧ pr_shows K A v0 v1 v2 H Q E
theorem ok_shows (T : Txt K mg A) : FnOk P w K mg base (L2.CX P w) 4 A.a_shows A.d_shows ["net", "ways", "lines"] (sp_shows K A) := by
  refine T.F_shows.okX sc_shows (fun vs H Q E h => by obtain ⟨v0, v1, v2, rfl, _⟩ := h; rfl) (fun cdv A0 outer s H vs Q E hr h => ?_)
  obtain ⟨v0, v1, v2, rfl, h⟩ := h
  exact ⟨t_shows K A E, (pss_cons (ps_expr (pe_call (E := E) (ok_must_be_kind T) (hr.mono (by decide)) (by rfl) T.g_must_be_kind T.F_must_be_kind.kp T.b_must_be_kind .nil (passes_call (takes_of rfl rfl rfl rfl) (fun _ _ _ _ h => h)) (pa_cons (pv 0) (pa_cons pe_str pa_nil))))
      (pss_cons ps_never
      (pss_cons ps_never
      (pss_cons ps_never
      (pss_cons ps_never
      (pss_one ps_never)))))), pure_shows h⟩
def pr_law_refused (K : PySem.W.Frag) (A : Ad) (v0 v1 : V) (H : Hp) (Q : VK) (_ : XK) : Prop := ∃ (g : Gv) (n : Int) (T : List Addr) (ws : List (Int × Int)) (es : List Ent) (hs os : List Int) (a b : Int), v0 = .ref g.a ∧ GvAt K A (hid T H) g n ws es hs os ∧ GvOk n ws es hs os ∧ (∀ x ∈ T, H x ≠ none) ∧ Dp K (hid g.cells H) v1 (dPair (a, b)) ∧ es.length ≤ 40 ∧
  (¬ isWay (.line n) a b → ∀ H', Same H H' → Q (.str (Str.ofString "none")) H') ∧ (isWay (.line n) a b → es.length = 40 → ∀ H', Same H H' → Q (.str (Str.ofString "many")) H') ∧ (isWay (.line n) a b → es.length < 40 →
  ∀ (h : Int) (i : Nat) (t : Int) H', Same (hid g.cells H) (hid g.cells H') → LevelOf es (tieW (a, b)) i → i ≤ 41 → GvAt K A (hid T H') g n (ws ++ [(a, b)]) (es ++ [(tieW (a, b), i)]) (hs ++ [h]) (os ++ [t]) → GvOk n (ws ++ [(a, b)]) (es ++ [(tieW (a, b), i)]) (hs ++ [h]) (os ++ [t]) → Q (.str (Str.ofString "put")) H')
def t_law_refused (K : PySem.W.Frag) (A : Ad) : TS :=
  (tSeq (tAsg (tC .non) (gName 2))
    (tSeq (tTryK K (.ref A.c_TieError) 3 2 fun W => (tDrop (tMethS A.c_Giver "put" (sp_Giver_put K A) (WE W) (tVar 0) (tCons (tVar 1) tNil))))
    (tSeq (tIfS (tTest (tOp xIsN (tVar 2) (tC .non))) (tRet (tC (.str (Str.ofString "put")))) tNext)
    (tSeq (tIfS (tOr (tB (tCB (rIsA K) (tCons (tVar 2) (tCons (tTup (tCons (tC (.ref A.c_NoHues)) (tCons (tC (.ref A.c_NoNet)) (tCons (tC (.ref A.c_OtherNet)) tNil)))) tNil)))) (tNot (tB (tCB (rIsA K) (tCons (tVar 2) (tCons (tC (.ty "ValueError")) tNil)))))) (tRet (tC (.str (Str.ofString "other")))) tNext)
    (tSeq (tIfS (tB (tCB (rIsA K) (tCons (tVar 2) (tCons (tC (.ref A.c_TooMany)) tNil)))) (tRet (tOp (rIxL K) (tLst (tCons (tC (.str (Str.ofString "many"))) (tCons (tC (.str (Str.ofString "other"))) tNil))) (tCB rIntOf (tCons (tCB (rIsA K) (tCons (tVar 2) (tCons (tC (.ref A.c_NoWay)) tNil))) tNil)))) tNext)
    (tRet (tOp (rIxL K) (tLst (tCons (tC (.str (Str.ofString "other"))) (tCons (tC (.str (Str.ofString "none"))) tNil))) (tCB rIntOf (tCons (tAndV (tCB (rIsA K) (tCons (tVar 2) (tCons (tC (.ref A.c_NoWay)) tNil))) (tOp xIsN (tXat K (Str.ofString "at") (tVar 2)) (tC .non))) tNil)))))))))
theorem pure_law_refused (T : Txt K mg A) {v0 v1 : V} {H : Hp} {Q : VK} {E : XK} (h : pr_law_refused K A v0 v1 H Q E) : t_law_refused K A ⟨fun _ H' => Q .non H', Q, fun _ _ => False, fun _ _ => False⟩ [some v0, some v1, none, none] H := by
  obtain ⟨g, n, TT, ws, es, hs, os, a, b, rfl, gaT, gok, hT, dw, le, qn, qt, q⟩ := h
  have ga := gaT.same (hid_same _ _)
  unfold t_law_refused
  refine k_seq (k_set (k_c (k_seq (tryjoin (fun cls d σ' H1 => σ' = [some (.ref g.a), some v1, some .non, none] ∧ ((cls = .ref A.c_TooMany ∧ d = none ∧ H1 = H ∧ isWay (.line n) a b ∧ es.length = 40) ∨ (∃ dd, cls = .ref A.c_NoWay ∧ d = some dd ∧ H dd = none ∧ ¬ isWay (.line n) a b ∧ H1 = upd H dd (.xd [(Str.ofString "at", .non)])))) ?_ (fun rest => ?_)))))
  · rintro cls d σ' H1 ⟨rfl, ⟨rfl, rfl, rfl, wok, l40⟩ | ⟨dd, rfl, rfl, nd, wno, rfl⟩⟩
    · refine k_caught (by show 3 < 4; decide) (PySem.W.exm_ref T.x_TieError.hs T.x_TieError.hd T.t_TieError T.u_TooMany) (fun e ne => ?_)
      have s2 := same_new (o := ExV (.ref A.c_TooMany) none e) ne
      have kp : KeptAt (upd H1 e (ExV (.ref A.c_TooMany) none e)) e A.c_TooMany := ⟨none, upd_same, .inl rfl⟩
      generalize upd H1 e (ExV (.ref A.c_TooMany) none e) = H2 at s2 kp ⊢
      wtm_at "s"
      refine kT (by simp) (fun tp H3 ntp s3 e3 => ?_)
      refine k_isXtup (b := false) (kept_same kp (by wtm_at "sm")) T.x_TooMany e3 (.cons (.own _) (.cons (.own _) (.cons (.own _) .nil))) (by simp [PySem.W.kitAny, T.q_TooMany_NoHues, T.q_TooMany_NoNet, T.q_TooMany_OtherNet]) ?_
      wtm_at "s"
      refine k_isXone (xs := []) (kept_same kp (by wtm_at "sm")) T.x_TooMany (.ty _) T.q_TooMany_ValueError ?_
      wtm_at "s"
      refine k_isXone (xs := []) (kept_same kp (by wtm_at "sm")) T.x_TooMany (.own _) T.q_TooMany_TooMany ?_
      wtm_at "s"
      refine kL (by simp) (fun l H4 nl s4 e4 => ?_)
      wtm_at "s"
      refine k_isXone (xs := []) (kept_same kp (by wtm_at "sm")) T.x_TooMany (.own _) T.q_TooMany_NoWay ?_
      wtm_at "s"
      refine k_ixL (sl e4) (v := .str (Str.ofString "many")) rfl ?_
      exact qt wok l40 _ (by wtm_at "sm")
    · refine k_caught (by show 3 < 4; decide) (PySem.W.exm_ref T.x_TieError.hs T.x_TieError.hd T.t_TieError T.u_NoWay) (fun e ne => ?_)
      have s2 := (same_new (o := .xd [(Str.ofString "at", V.non)]) nd).trans (same_new (o := ExV (.ref A.c_NoWay) (some dd) e) ne)
      have e1 : upd (upd H dd (.xd [(Str.ofString "at", V.non)])) e (ExV (.ref A.c_NoWay) (some dd) e) e = some (ExV (.ref A.c_NoWay) (some dd) e) := upd_same
      have e2 : upd (upd H dd (.xd [(Str.ofString "at", V.non)])) e (ExV (.ref A.c_NoWay) (some dd) e) dd = some (.xd [(Str.ofString "at", V.non)]) := same_new ne _ _ upd_same
      generalize upd (upd H dd (.xd [(Str.ofString "at", V.non)])) e (ExV (.ref A.c_NoWay) (some dd) e) = H2 at s2 e1 e2 ⊢
      have kp : KeptAt H2 e A.c_NoWay := ⟨_, e1, .inr ⟨_, _, rfl, e2⟩⟩
      wtm_at "s"
      refine kT (by simp) (fun tp H3 ntp s3 e3 => ?_)
      refine k_isXtup (b := false) (kept_same kp (by wtm_at "sm")) T.x_NoWay e3 (.cons (.own _) (.cons (.own _) (.cons (.own _) .nil))) (by simp [PySem.W.kitAny, T.q_NoWay_NoHues, T.q_NoWay_NoNet, T.q_NoWay_OtherNet]) ?_
      wtm_at "s"
      refine k_isXone (xs := []) (kept_same kp (by wtm_at "sm")) T.x_NoWay (.ty _) T.q_NoWay_ValueError ?_
      wtm_at "s"
      refine k_isXone (xs := []) (kept_same kp (by wtm_at "sm")) T.x_NoWay (.own _) T.q_NoWay_TooMany ?_
      wtm_at "s"
      refine kL (by simp) (fun l H4 nl s4 e4 => ?_)
      wtm_at "s"
      refine k_isXone (xs := []) (kept_same kp (by wtm_at "sm")) T.x_NoWay (.own _) T.q_NoWay_NoWay ?_
      wtm_at "s"
      refine ⟨e, A.c_NoWay, dd, _, _, rfl, by wtm_at "at", T.x_NoWay.xf, T.nf_NoWay, by wtm_at "at", rfl, ?_⟩
      wtm_at "s"
      refine k_ixL (sl e4) (v := .str (Str.ofString "none")) rfl ?_
      exact qn wno _ (by wtm_at "sm")
  refine k_try ?_
  wtm_at "s"
  refine k_mF ga.ins rfl ?_
  wtm_at "s"
  refine ⟨_, _, rfl, g, n, TT, ws, es, hs, os, a, b, rfl, gaT, gok, hT, dw, le, (fun wno d nd => rest _ _ _ _ ⟨rfl, .inr ⟨d, rfl, rfl, nd, wno, rfl⟩⟩), (fun wok l40 => rest _ _ _ _ ⟨rfl, .inl ⟨rfl, rfl, rfl, wok, l40⟩⟩), fun wok lt h i t H' S lv hi ga' gok' => ?_⟩
  wtm_at "s"
  exact q wok lt h i t H' S lv hi ga' gok'
abbrev sp_law_refused (K : PySem.W.Frag) (A : Ad) : Sp := fun vs H Q E => ∃ v0 v1, vs = [v0, v1] ∧ pr_law_refused K A v0 v1 H Q E
theorem ok_law_refused (T : Txt K mg A) : FnOk P w K mg base CX0 4 A.a_law_refused A.d_law_refused ["_law_giver", "_law_way_here"] (sp_law_refused K A) := by
  refine T.F_law_refused.ok sc_law_refused (fun vs H Q E h => by obtain ⟨v0, v1, rfl, _⟩ := h; rfl) (fun cdv A0 outer s H vs Q E hr h => ?_)
  obtain ⟨v0, v1, rfl, h⟩ := h
  exact ⟨t_law_refused K A, (pss_cons (ps_set (i := 2) sc_law_refused.nd rfl (Or.inl rfl) pe_non)
      (pss_cons (ps_try_kept (i := 3) (tb := fun W => (tDrop (tMethS A.c_Giver "put" (sp_Giver_put K A) (WE W) (tVar 0) (tCons (tVar 1) tNil)))) (ts := fun _ _ _ => tAsg (tVar 3) (gName 2)) (Wout := fun _ _ _ _ => False) rfl rfl rfl sc_law_refused.nd rfl rfl ⟨by rfl, by decide, Or.inl T.k_TieError⟩ takes0
      (fun W pn xe tk _ => (pss_one (ps_expr (pe_methS (pv 0) T.K_Giver T.Me_Giver_put (ok_Giver_put T) (hr.mono (by decide)) T.b_Giver_put (fun σ => passAt tk σ) (pa_cons (pv 1) pa_nil)))))
      (fun a oe cls d pn hz hf => (pss_one (ps_set (i := 2) sc_law_refused.nd rfl (Or.inl rfl) (pv 3)))))
      (pss_cons (ps_if (pt_cmpR op_isN (pv 2) pe_non (nomark _)) (pss_one (ps_ret pe_str)) pss_nil)
      (pss_cons (ps_if (PW.pt (pw_or (pt_val (pe_callB q_isA (by rfl) T.z_isinstance (by decide +kernel) (pa_cons (pv 2) (pa_cons (pe_tup (pa_cons (pe_glob (v := .ref A.c_NoHues) (by rfl) T.k_NoHues rfl) (pa_cons (pe_glob (v := .ref A.c_NoNet) (by rfl) T.k_NoNet rfl) (pa_cons (pe_glob (v := .ref A.c_OtherNet) (by rfl) T.k_OtherNet rfl) pa_nil)))) pa_nil)))) (pw_or1 (pt_not (pt_val (pe_callB q_isA (by rfl) T.z_isinstance (by decide +kernel) (pa_cons (pv 2) (pa_cons (pe_bltn (v := .ty "ValueError") (by rfl) T.z_ValueError (by decide +kernel) rfl) pa_nil)))))))) (pss_one (ps_ret pe_str)) pss_nil)
      (pss_cons (ps_if (pt_val (pe_callB q_isA (by rfl) T.z_isinstance (by decide +kernel) (pa_cons (pv 2) (pa_cons (pe_glob (v := .ref A.c_TooMany) (by rfl) T.k_TooMany rfl) pa_nil)))) (pss_one (ps_ret (pe_ix ix_list (pe_lst (pa_cons pe_str (pa_cons pe_str pa_nil))) (pe_callTy q_intB (by rfl) T.z_int (by decide +kernel) (pa_cons (pe_callB q_isA (by rfl) T.z_isinstance (by decide +kernel) (pa_cons (pv 2) (pa_cons (pe_glob (v := .ref A.c_NoWay) (by rfl) T.k_NoWay rfl) pa_nil))) pa_nil)) (fun _ _ => rfl)))) pss_nil)
      (pss_one (ps_ret (pe_ix ix_list (pe_lst (pa_cons pe_str (pa_cons pe_str pa_nil))) (pe_callTy q_intB (by rfl) T.z_int (by decide +kernel) (pa_cons (pe_and (pe_callB q_isA (by rfl) T.z_isinstance (by decide +kernel) (pa_cons (pv 2) (pa_cons (pe_glob (v := .ref A.c_NoWay) (by rfl) T.k_NoWay rfl) pa_nil))) (pe_one (pe_cmpR op_isN (pe_xat (pv 2)) pe_non (nomark _)))) pa_nil)) (fun _ _ => rfl))))))))), pure_law_refused T h⟩
def pr_law_no_tie (K : PySem.W.Frag) (A : Ad) (v0 v1 : V) (H : Hp) (Q : VK) (_ : XK) : Prop := ∃ (a dx l c : Addr) (fs : List (Str × V)) (ys zs : List V) (k : Int), v0 = .ref a ∧ v1 = .int k ∧ H a = some (.ins A.c_Giver dx fs) ∧ fs.lookup (Str.ofString "own_tie") = none ∧ fs.lookup (Str.ofString "come") = some (.ref c) ∧ fs.lookup (Str.ofString "own") = some (.ref l) ∧ H c = some (.lst zs) ∧ H l = some (.lst ys) ∧
  (k < 0 ∨ (zs.length : Int) ≤ k) ∧ ∀ H', Same H H' → Q (.bl true) H'
def t_law_no_tie (K : PySem.W.Frag) (A : Ad) : TS :=
  (tSeq (tAsg (tC .non) (gName 2))
    (tSeq (tTryK K (.ref A.c_TieError) 3 2 fun W => (tDrop (tMethS A.c_Giver "own_tie" (sp_Giver_own_tie K A) (WE W) (tVar 0) (tCons (tVar 1) tNil))))
    (tRet (tAndV (tCB (rIsA K) (tCons (tVar 2) (tCons (tC (.ref A.c_NoWay)) tNil))) (tAndV (tNotV (tCB (rIsA K) (tCons (tVar 2) (tCons (tTup (tCons (tC (.ref A.c_NoNet)) (tCons (tC (.ref A.c_TooMany)) tNil))) tNil)))) (tOp (rEqD K) (tXat K (Str.ofString "at") (tVar 2)) (tVar 1)))))))
theorem pure_law_no_tie (T : Txt K mg A) {v0 v1 : V} {H : Hp} {Q : VK} {E : XK} (h : pr_law_no_tie K A v0 v1 H Q E) : t_law_no_tie K A ⟨fun _ H' => Q .non H', Q, fun _ _ => False, fun _ _ => False⟩ [some v0, some v1, none, none] H := by
  obtain ⟨a, dx, l, c, fs, ys, zs, k, rfl, rfl, ha, hm, hc, ho, ec, el, hk, q⟩ := h
  unfold t_law_no_tie
  refine k_seq (k_set (k_c (k_seq (tryjoin (fun cls d σ' H1 => σ' = [some (.ref a), some (.int k), some .non, none] ∧ (∃ dd, cls = .ref A.c_NoWay ∧ d = some dd ∧ H dd = none ∧ H1 = upd H dd (.xd [(Str.ofString "at", .int k)]))) ?_ (fun rest => ?_)))))
  · rintro cls d σ' H1 ⟨rfl, dd, rfl, rfl, nd, rfl⟩
    refine k_caught (by show 3 < 4; decide) (PySem.W.exm_ref T.x_TieError.hs T.x_TieError.hd T.t_TieError T.u_NoWay) (fun e ne => ?_)
    have s2 := (same_new (o := .xd [(Str.ofString "at", V.int k)]) nd).trans (same_new (o := ExV (.ref A.c_NoWay) (some dd) e) ne)
    have e1 : upd (upd H dd (.xd [(Str.ofString "at", V.int k)])) e (ExV (.ref A.c_NoWay) (some dd) e) e = some (ExV (.ref A.c_NoWay) (some dd) e) := upd_same
    have e2 : upd (upd H dd (.xd [(Str.ofString "at", V.int k)])) e (ExV (.ref A.c_NoWay) (some dd) e) dd = some (.xd [(Str.ofString "at", V.int k)]) := same_new ne _ _ upd_same
    generalize upd (upd H dd (.xd [(Str.ofString "at", V.int k)])) e (ExV (.ref A.c_NoWay) (some dd) e) = H2 at s2 e1 e2 ⊢
    have kp : KeptAt H2 e A.c_NoWay := ⟨_, e1, .inr ⟨_, _, rfl, e2⟩⟩
    wtm_at "s"
    refine k_isXone (xs := []) kp T.x_NoWay (.own _) T.q_NoWay_NoWay ?_
    wtm_at "s"
    refine kT (by simp) (fun tp H3 ntp s3 e3 => ?_)
    refine k_isXtup (b := false) (kept_same kp (by wtm_at "sm")) T.x_NoWay e3 (.cons (.own _) (.cons (.own _) .nil)) (by simp [PySem.W.kitAny, T.q_NoWay_NoNet, T.q_NoWay_TooMany]) ?_
    wtm_at "s"
    refine ⟨e, A.c_NoWay, dd, _, _, rfl, by wtm_at "at", T.x_NoWay.xf, T.nf_NoWay, by wtm_at "at", rfl, ?_⟩
    wtm_at "s"
    refine k_eqD1 (n := 0) (.int k) (.int k) sh_int (by decide) ?_
    exact q _ (by wtm_at "sm")
  refine k_try ?_
  wtm_at "s"
  refine k_mF ha hm ?_
  wtm_at "s"
  exact ⟨_, _, rfl, a, dx, l, c, fs, ys, zs, k, rfl, rfl, ha, hc, ho, ec, el, .inr ⟨hk, fun d nd => rest _ _ _ _ ⟨rfl, d, rfl, rfl, nd, rfl⟩⟩⟩
abbrev sp_law_no_tie (K : PySem.W.Frag) (A : Ad) : Sp := fun vs H Q E => ∃ v0 v1, vs = [v0, v1] ∧ pr_law_no_tie K A v0 v1 H Q E
theorem ok_law_no_tie (T : Txt K mg A) : FnOk P w K mg base CX0 4 A.a_law_no_tie A.d_law_no_tie ["_law_giver", "_law_number"] (sp_law_no_tie K A) := by
  refine T.F_law_no_tie.ok sc_law_no_tie (fun vs H Q E h => by obtain ⟨v0, v1, rfl, _⟩ := h; rfl) (fun cdv A0 outer s H vs Q E hr h => ?_)
  obtain ⟨v0, v1, rfl, h⟩ := h
  exact ⟨t_law_no_tie K A, (pss_cons (ps_set (i := 2) sc_law_no_tie.nd rfl (Or.inl rfl) pe_non)
      (pss_cons (ps_try_kept (i := 3) (tb := fun W => (tDrop (tMethS A.c_Giver "own_tie" (sp_Giver_own_tie K A) (WE W) (tVar 0) (tCons (tVar 1) tNil)))) (ts := fun _ _ _ => tAsg (tVar 3) (gName 2)) (Wout := fun _ _ _ _ => False) rfl rfl rfl sc_law_no_tie.nd rfl rfl ⟨by rfl, by decide, Or.inl T.k_TieError⟩ takes0
      (fun W pn xe tk _ => (pss_one (ps_expr (pe_methS (pv 0) T.K_Giver T.Me_Giver_own_tie (ok_Giver_own_tie T) (hr.mono (by decide)) T.b_Giver_own_tie (fun σ => passAt tk σ) (pa_cons (pv 1) pa_nil)))))
      (fun a oe cls d pn hz hf => (pss_one (ps_set (i := 2) sc_law_no_tie.nd rfl (Or.inl rfl) (pv 3)))))
      (pss_one (ps_ret (pe_and (pe_callB q_isA (by rfl) T.z_isinstance (by decide +kernel) (pa_cons (pv 2) (pa_cons (pe_glob (v := .ref A.c_NoWay) (by rfl) T.k_NoWay rfl) pa_nil))) (pe_and (pe_not (pe_callB q_isA (by rfl) T.z_isinstance (by decide +kernel) (pa_cons (pv 2) (pa_cons (pe_tup (pa_cons (pe_glob (v := .ref A.c_NoNet) (by rfl) T.k_NoNet rfl) (pa_cons (pe_glob (v := .ref A.c_TooMany) (by rfl) T.k_TooMany rfl) pa_nil))) pa_nil)))) (pe_one (pe_cmpR (op_eqD hr.units) (pe_xat (pv 2)) (pv 1) (nomark _))))))))), pure_law_no_tie T h⟩
def pr_law_other (K : PySem.W.Frag) (A : Ad) (v0 v1 : V) (H : Hp) (Q : VK) (_ : XK) : Prop := ∃ (x : Int) (N : Net), v1 = .int x ∧ Dp K H v0 N.d ∧ N.ok ∧ N.kind ≠ Str.ofString "line" ∧ ∀ H', Same H H' → Q (.bl true) H'
def t_law_other (K : PySem.W.Frag) (A : Ad) : TS :=
  (tSeq (tAsg (tC .non) (gName 2))
    (tSeq (tTryK K (.ref A.c_TieError) 3 2 fun W => (tIfS (tTest (tOp rEq (tVar 1) (tC (.int 0)))) (tDrop (tMakeS A.c_Giver (sp_Giver_init K A) (WE W) (tCons (tVar 0) tNil))) (tDrop (tCallS (sp_shows K A) (WE W) (tCons (tVar 0) (tCons (tLst (tCons (tTup (tCons (tC (.int 0)) (tCons (tC (.int 0)) tNil))) tNil)) (tCons (tLst tNil) tNil)))))))
    (tRet (tAndV (tCB (rIsA K) (tCons (tVar 2) (tCons (tC (.ref A.c_OtherNet)) tNil))) (tAndV (tCB (rIsA K) (tCons (tVar 2) (tCons (tC (.ty "ValueError")) tNil))) (tNotV (tCB (rIsA K) (tCons (tVar 2) (tCons (tTup (tCons (tC (.ref A.c_NoNet)) (tCons (tC (.ref A.c_NoWay)) tNil))) tNil)))))))))
theorem pure_law_other (T : Txt K mg A) {v0 v1 : V} {H : Hp} {Q : VK} {E : XK} (h : pr_law_other K A v0 v1 H Q E) : t_law_other K A ⟨fun _ H' => Q .non H', Q, fun _ _ => False, fun _ _ => False⟩ [some v0, some v1, none, none] H := by
  obtain ⟨x, N, rfl, hd, ok, hk, q⟩ := h
  unfold t_law_other
  refine k_seq (k_set (k_c (k_seq (tryjoin (fun cls d σ' H1 => cls = .ref A.c_OtherNet ∧ d = none ∧ Same H H1 ∧ σ' = [some v0, some (.int x), some .non, none]) ?_ (fun rest => ?_)))))
  · rintro cls d σ' H1 ⟨rfl, rfl, s1, rfl⟩
    refine k_caught (by show 3 < 4; decide) (PySem.W.exm_ref T.x_TieError.hs T.x_TieError.hd T.t_TieError T.u_OtherNet) (fun e ne => ?_)
    have s2 := same_new (o := ExV (.ref A.c_OtherNet) none e) ne
    have kp : KeptAt (upd H1 e (ExV (.ref A.c_OtherNet) none e)) e A.c_OtherNet := ⟨none, upd_same, .inl rfl⟩
    generalize upd H1 e (ExV (.ref A.c_OtherNet) none e) = H2 at s2 kp ⊢
    wtm_at "s"
    refine k_isXone (xs := []) kp T.x_OtherNet (.own _) T.q_OtherNet_OtherNet ?_
    wtm_at "s"
    refine k_isXone (xs := []) kp T.x_OtherNet (.ty _) T.q_OtherNet_ValueError ?_
    wtm_at "s"
    refine kT (by simp) (fun tp H3 ntp s3 e3 => ?_)
    refine k_isXtup (b := false) (kept_same kp (by wtm_at "sm")) T.x_OtherNet e3 (.cons (.own _) (.cons (.own _) .nil)) (by simp [PySem.W.kitAny, T.q_OtherNet_NoNet, T.q_OtherNet_NoWay]) ?_
    wtm_at "s"
    exact q _ (by wtm_at "sm")
  refine k_try ?_
  wtm_at "s"
  refine k_it (fun c => ?_) (fun c => ?_)
  · wtm_at "s"
    intro x dx nx ndx ne
    have s1 : Same H (upd (upd H dx (.own x)) x (.ins A.c_Giver dx [])) := fun b o hb => by
      rw [upd_ne (fun z => by rw [z, nx] at hb; cases hb), upd_ne (fun z => by rw [z, ndx] at hb; cases hb)]
      exact hb
    exact ⟨_, _, rfl, .inl ⟨N, dp_same s1 hd, ok, hk, rest _ _ _ _ ⟨rfl, rfl, s1, rfl⟩⟩⟩
  · wtm_at "s"
    refine kT (by simp) (fun t1 H1 nt1 s1 e1 => ?_)
    wtm_at "s"
    refine kL (by simp) (fun l1 H2 nl1 s2 e2 => ?_)
    wtm_at "s"
    refine kL (by simp) (fun l2 H3 nl2 s3 e3 => ?_)
    wtm_at "s"
    exact ⟨_, _, _, rfl, N, dp_same (by wtm_at "sm") hd, ok, hk, rest _ _ _ _ ⟨rfl, rfl, by wtm_at "sm", rfl⟩⟩
abbrev sp_law_other (K : PySem.W.Frag) (A : Ad) : Sp := fun vs H Q E => ∃ v0 v1, vs = [v0, v1] ∧ pr_law_other K A v0 v1 H Q E
theorem ok_law_other (T : Txt K mg A) : FnOk P w K mg base CX0 6 A.a_law_other A.d_law_other ["_law_net", "_law_which"] (sp_law_other K A) := by
  refine T.F_law_other.ok sc_law_other (fun vs H Q E h => by obtain ⟨v0, v1, rfl, _⟩ := h; rfl) (fun cdv A0 outer s H vs Q E hr h => ?_)
  obtain ⟨v0, v1, rfl, h⟩ := h
  exact ⟨t_law_other K A, (pss_cons (ps_set (i := 2) sc_law_other.nd rfl (Or.inl rfl) pe_non)
      (pss_cons (ps_try_kept (i := 3) (tb := fun W => (tIfS (tTest (tOp rEq (tVar 1) (tC (.int 0)))) (tDrop (tMakeS A.c_Giver (sp_Giver_init K A) (WE W) (tCons (tVar 0) tNil))) (tDrop (tCallS (sp_shows K A) (WE W) (tCons (tVar 0) (tCons (tLst (tCons (tTup (tCons (tC (.int 0)) (tCons (tC (.int 0)) tNil))) tNil)) (tCons (tLst tNil) tNil))))))) (ts := fun _ _ _ => tAsg (tVar 3) (gName 2)) (Wout := fun _ _ _ _ => False) rfl rfl rfl sc_law_other.nd rfl rfl ⟨by rfl, by decide, Or.inl T.k_TieError⟩ takes0
      (fun W pn xe tk _ => (pss_one (ps_if (pt_cmpR op_eq (pv 1) pe_int (nomark _)) (pss_one (ps_expr (pe_makeS T.M_Giver (ok_Giver_init T) (hr.mono (by decide)) (by rfl) T.k_Giver T.b_Giver_init (fun σ => passAt tk σ) (pa_cons (pv 0) pa_nil)))) (pss_one (ps_expr (pe_callS (ok_shows T) (hr.mono (by decide)) (by rfl) T.g_shows T.F_shows.kp T.b_shows (fun σ => passAt tk σ) (pa_cons (pv 0) (pa_cons (pe_lst (pa_cons (pe_tup (pa_cons pe_int (pa_cons pe_int pa_nil))) pa_nil)) (pa_cons (pe_lst pa_nil) pa_nil)))))))))
      (fun a oe cls d pn hz hf => (pss_one (ps_set (i := 2) sc_law_other.nd rfl (Or.inl rfl) (pv 3)))))
      (pss_one (ps_ret (pe_and (pe_callB q_isA (by rfl) T.z_isinstance (by decide +kernel) (pa_cons (pv 2) (pa_cons (pe_glob (v := .ref A.c_OtherNet) (by rfl) T.k_OtherNet rfl) pa_nil))) (pe_and (pe_callB q_isA (by rfl) T.z_isinstance (by decide +kernel) (pa_cons (pv 2) (pa_cons (pe_bltn (v := .ty "ValueError") (by rfl) T.z_ValueError (by decide +kernel) rfl) pa_nil))) (pe_one (pe_not (pe_callB q_isA (by rfl) T.z_isinstance (by decide +kernel) (pa_cons (pv 2) (pa_cons (pe_tup (pa_cons (pe_glob (v := .ref A.c_NoNet) (by rfl) T.k_NoNet rfl) (pa_cons (pe_glob (v := .ref A.c_NoWay) (by rfl) T.k_NoWay rfl) pa_nil))) pa_nil))))))))))), pure_law_other T h⟩


/-- no two ways of a Giver that meet have one hue -/
theorem gv_clash {n : Int} {ws : List (Int × Int)} {es : List Ent} {hs os : List Int} (o : GvOk n ws es hs os) (i j : Nat) : ¬ BadM (meetW (.line n) ws) ws.length hs i j := by
  rintro ⟨h1, h2, h3⟩
  have le : es.length = ws.length := by
    have := congrArg List.length o.tie
    simpa only [List.length_map] using this
  have ge : ∀ k, k < ws.length → ∃ e w, es[k]? = some e ∧ ws[k]? = some w ∧ e.1 = tieW w := fun k hk => by
    refine ⟨es[k]'(by omega), ws[k], List.getElem?_eq_getElem (by omega), List.getElem?_eq_getElem hk, ?_⟩
    have e1 : (es.map (·.1))[k]? = (ws.map tieW)[k]? := by rw [o.tie]
    rw [List.getElem?_map, List.getElem?_map, List.getElem?_eq_getElem hk, List.getElem?_eq_getElem (show k < es.length by omega)] at e1
    simpa using e1
  have gh : ∀ k, k < ws.length → hs[k]? = some (hs.getD k 0) := fun k hk => by
    have := o.lh
    rw [List.getD_eq_getElem?_getD, List.getElem?_eq_getElem (show k < hs.length by omega)]; rfl
  split at h3
  · rename_i e
    obtain ⟨e, w, h4, _, _⟩ := ge i (by omega)
    have h5 := o.hue i e _ h4 (gh i (by omega))
    have h6 := good_pos o.good e (List.mem_of_getElem? h4)
    unfold lvHues at h5
    split at h5 <;> simp only [List.mem_cons, List.not_mem_nil, or_false] at h5 <;> omega
  · rename_i ne
    obtain ⟨hh, w, v, t, hw, hv, on1, on2⟩ := h3
    obtain ⟨e, w', h4, hw', e1⟩ := ge i (by omega)
    obtain ⟨f, v', h5, hv', e2⟩ := ge j h2
    rw [hw] at hw'; cases hw'
    rw [hv] at hv'; cases hv'
    refine o.right i j e f (by omega) h4 h5 ?_ (by rw [gh i (by omega), gh j h2, hh])
    rw [e1, e2]
    have a1 : min w.1 w.2 ≤ t ∧ t < max w.1 w.2 := on1
    have a2 : min v.1 v.2 ≤ t ∧ t < max v.1 v.2 := on2
    unfold meetI tieW
    simp only
    omega
theorem dpa_hid {H : Hp} {S : List Addr} {vs : List V} {ds : List PyData} (h : DpAll K (hid S H) vs ds) : DpAll K H vs ds := dpa_same (hid_same _ _) h
def pr_law_as_clean (K : PySem.W.Frag) (A : Ad) (v0 v1 v2 v3 : V) (H : Hp) (Q : VK) (_ : XK) : Prop := ∃ (g g' : Gv) (n : Int) (ws : List (Int × Int)) (es : List Ent) (hs hs' os : List Int), v1 = .ref g.a ∧ v2 = .ref g'.a ∧ v3 = .int ws.length ∧ Dp K H v0 (Net.line n).d ∧ GvAt K A H g n ws es hs os ∧ GvAt K A H g' n ws es hs' os ∧ GvOk n ws es hs os ∧ ws.length ≤ 40 ∧
  ∀ H', Same H H' → Q (.bl true) H'
def t_law_as_clean (K : PySem.W.Frag) (A : Ad) : TS :=
  (tSeq (tIfS (tOr (tTest (tOp (rNeD K) (tMeth A.c_Giver "ways" (sp_Giver_ways K A) [] E0 (tVar 1) tNil) (tMeth A.c_Giver "ways" (sp_Giver_ways K A) [] E0 (tVar 2) tNil))) (tTest (tOp (rNeD K) (tMeth A.c_Giver "levels" (sp_Giver_levels K A) [] E0 (tVar 1) tNil) (tMeth A.c_Giver "levels" (sp_Giver_levels K A) [] E0 (tVar 2) tNil)))) (tRet (tC (.bl false))) tNext)
    (tSeq (tIfS (tTest (tOp (rNeD K) (tLc (iRng1 (tCons (tVar 3) tNil)) (gName 4) tYes (tMeth A.c_Giver "own_tie" (sp_Giver_own_tie K A) [] E0 (tVar 1) (tCons (tVar 4) tNil)) [4]) (tLc (iRng1 (tCons (tVar 3) tNil)) (gName 4) tYes (tMeth A.c_Giver "own_tie" (sp_Giver_own_tie K A) [] E0 (tVar 2) (tCons (tVar 4) tNil)) [4]))) (tRet (tC (.bl false))) tNext)
    (tRet (tOp xIsN (tCall (sp_clash K) [] E0 (tCons (tVar 0) (tCons (tMeth A.c_Giver "ways" (sp_Giver_ways K A) [] E0 (tVar 1) tNil) (tCons (tMeth A.c_Giver "hues" (sp_Giver_hues K A) [] E0 (tVar 1) tNil) tNil)))) (tC .non)))))
theorem pure_law_as_clean (T : Txt K mg A) {v0 v1 v2 v3 : V} {H : Hp} {Q : VK} {E : XK} (h : pr_law_as_clean K A v0 v1 v2 v3 H Q E) : t_law_as_clean K A ⟨fun _ H' => Q .non H', Q, fun _ _ => False, fun _ _ => False⟩ [some v0, some v1, some v2, some v3, none] H := by
  obtain ⟨g, g', n, ws, es, hs, hs', os, rfl, rfl, rfl, dn, ga, gb, gok, lw, q⟩ := h
  have le : es.length = ws.length := by
    have := congrArg List.length gok.tie
    simpa only [List.length_map] using this
  have lo := gok.lo
  have lh := gok.lh
  obtain ⟨ys, ecm, dys⟩ := ga.come
  obtain ⟨ys', ecm', dys'⟩ := gb.come
  have ly := dpa_len dys
  have ly' := dpa_len dys'
  rw [List.length_map] at ly ly'
  unfold t_law_as_clean
  wtm_at "s"
  refine k_mF ga.ins rfl ?_
  wtm_at "s"
  refine ⟨_, rfl, g.a, g.dx, g.cm, _, ys, rfl, ga.ins, rfl, ecm, fun p1 H1 np1 s1 e1 => ?_⟩
  wtm_at "s"
  refine k_mF (s1 _ _ gb.ins) rfl ?_
  wtm_at "s"
  refine ⟨_, rfl, g'.a, g'.dx, g'.cm, _, ys', rfl, s1 _ _ gb.ins, rfl, s1 _ _ ecm', fun p2 H2 np2 s2 e2 => ?_⟩
  have s02 := s1.trans s2
  refine k_neD0 (n := 2) (c := dPairs ws) (.lst (sl (s2 _ _ e1)) (dpa_same s02 (dpa_hid dys))) (.lst (sl e2) (dpa_same s02 (dpa_hid dys'))) (sh_pairs _) (by decide) ?_
  wtm_at "s"
  refine k_mF (s02 _ _ ga.ins) rfl ?_
  wtm_at "s"
  refine ⟨_, rfl, g.a, g.dx, g.lv, _, _, rfl, s02 _ _ ga.ins, rfl, s02 _ _ ga.lev, fun p3 H3 np3 s3 e3 => ?_⟩
  have s03 := s02.trans s3
  wtm_at "s"
  refine k_mF (s03 _ _ gb.ins) rfl ?_
  wtm_at "s"
  refine ⟨_, rfl, g'.a, g'.dx, g'.lv, _, _, rfl, s03 _ _ gb.ins, rfl, s03 _ _ gb.lev, fun p4 H4 np4 s4 e4 => ?_⟩
  have s04 := s03.trans s4
  refine k_neD0 (n := 2) (dp_of_ints (sl (s4 _ _ e3))) (dp_of_ints (sl e4)) (sh_ints _) (by decide) ?_
  have own : ∀ (g : Gv) (hs : List Int) (ys : List V) (j : Nat) (H5 : Hp) (R : VK), GvAt K A H5 g n ws es hs os → H5 g.cm = some (.lst ys) → ys.length = ws.length → j < ws.length → R (.int (os.getD j 0)) H5 → ∃ v0 v1, [V.ref g.a, .int j] = [v0, v1] ∧ pr_Giver_own_tie K A v0 v1 H5 R E0 := fun g hs ys j H5 R ga ecm ly hj r => by
    refine ⟨_, _, rfl, g.a, g.dx, g.ow, g.cm, _, _, ys, j, rfl, rfl, ga.ins, rfl, rfl, ecm, ga.own, .inl ⟨j, _, rfl, by omega, ?_, r⟩⟩
    rw [List.getElem?_map, List.getD_eq_getElem?_getD, List.getElem?_eq_getElem (show j < os.length by omega)]; rfl
  have lst : ∀ k : Nat, k = os.length → (List.range k).filterMap (fun j => some (V.int (os.getD j 0))) = os.map V.int := fun k hk => by
    subst hk
    refine List.ext_getElem? fun j => ?_
    rw [fm_map, List.getElem?_map, List.getElem?_map]
    by_cases c : j < os.length
    · rw [List.getElem?_range c, List.getElem?_eq_getElem c]
      simp [List.getD_eq_getElem?_getD, List.getElem?_eq_getElem c]
    · rw [List.getElem?_eq_none (by simpa using c), List.getElem?_eq_none (by simpa using c)]; rfl
  wtm_at "s"
  refine lc_pureR (by omega) (fun j => some (V.int (os.getD j 0))) ?_ (fun D5 H5 nD5 s5 e5 => ?_)
  · intro j H' hj sm R R0 g1 g2
    have s' := s04.trans sm
    rw [Int.zero_add]
    wtm_at "s"
    refine k_mF (s' _ _ ga.ins) rfl ?_
    wtm_at "s"
    exact own g hs ys j H' R (ga.same s') (s' _ _ ecm) ly (by omega) (g1 _ rfl)
  have s05 := s04.trans s5
  wtm_at "s"
  refine lc_pureR (by omega) (fun j => some (V.int (os.getD j 0))) ?_ (fun D6 H6 nD6 s6 e6 => ?_)
  · intro j H' hj sm R R0 g1 g2
    have s' := s05.trans sm
    rw [Int.zero_add]
    wtm_at "s"
    refine k_mF (s' _ _ gb.ins) rfl ?_
    wtm_at "s"
    exact own g' hs' ys' j H' R (gb.same s') (s' _ _ ecm') ly' (by omega) (g1 _ rfl)
  have s06 := s05.trans s6
  rw [lst _ (by omega)] at e5 e6
  refine k_neD0 (n := 2) (dp_of_ints (sl (s6 _ _ e5))) (dp_of_ints (sl e6)) (sh_ints _) (by decide) ?_
  wtm_at "s"
  refine k_mF (s06 _ _ ga.ins) rfl ?_
  wtm_at "s"
  refine ⟨_, rfl, g.a, g.dx, g.cm, _, ys, rfl, s06 _ _ ga.ins, rfl, s06 _ _ ecm, fun p7 H7 np7 s7 e7 => ?_⟩
  have s07 := s06.trans s7
  wtm_at "s"
  refine k_mF (s07 _ _ ga.ins) rfl ?_
  wtm_at "s"
  refine ⟨_, rfl, g.a, g.dx, g.gv, _, _, rfl, s07 _ _ ga.ins, rfl, s07 _ _ ga.given, fun p8 H8 np8 s8 e8 => ?_⟩
  have s08 := s07.trans s8
  wtm_at "s"
  refine ⟨_, _, _, rfl, .line n, ws, hs, dp_same s08 dn, ⟨ga.n2, ga.n60⟩, .lst (sl (s8 _ _ e7)) (dpa_same s08 (dpa_hid dys)), by omega, gok.wok, dp_of_ints (sl e8), ?_, ?_, ?_⟩
  · intro z; omega
  · intro _ _ H9 s9
    wtm_at "s"
    exact q _ (s08.trans s9)
  · intro i j _ fm
    exact absurd fm.1 (gv_clash gok i j)
abbrev sp_law_as_clean (K : PySem.W.Frag) (A : Ad) : Sp := fun vs H Q E => ∃ v0 v1 v2 v3, vs = [v0, v1, v2, v3] ∧ pr_law_as_clean K A v0 v1 v2 v3 H Q E
theorem ok_law_as_clean (T : Txt K mg A) : FnOk P w K mg base CX0 6 A.a_law_as_clean A.d_law_as_clean ["_law_net", "_law_giver", "_law_clean", "_law_count"] (sp_law_as_clean K A) := by
  refine T.F_law_as_clean.ok sc_law_as_clean (fun vs H Q E h => by obtain ⟨v0, v1, v2, v3, rfl, _⟩ := h; rfl) (fun cdv A0 outer s H vs Q E hr h => ?_)
  obtain ⟨v0, v1, v2, v3, rfl, h⟩ := h
  exact ⟨t_law_as_clean K A, (pss_cons (ps_if (PW.pt (pw_or (pt_cmpR (op_neD hr.units) (pe_meth0 (pv 1) T.K_Giver T.Me_Giver_ways (ok_Giver_ways T) (hr.mono (by decide)) T.b_Giver_ways .nil pass0 ) (pe_meth0 (pv 2) T.K_Giver T.Me_Giver_ways (ok_Giver_ways T) (hr.mono (by decide)) T.b_Giver_ways .nil pass0 ) (nomark _)) (pw_or1 (pt_cmpR (op_neD hr.units) (pe_meth0 (pv 1) T.K_Giver T.Me_Giver_levels (ok_Giver_levels T) (hr.mono (by decide)) T.b_Giver_levels .nil pass0 ) (pe_meth0 (pv 2) T.K_Giver T.Me_Giver_levels (ok_Giver_levels T) (hr.mono (by decide)) T.b_Giver_levels .nil pass0 ) (nomark _))))) (pss_one (ps_ret pe_bl)) pss_nil)
      (pss_cons (ps_if (pt_cmpR (op_neD hr.units) (pe_lc (own := [("_law_k", 4)]) (by rfl) sc_law_as_clean.nd (pi_range1 (by rfl) T.z_range (pa_cons (pv 3) pa_nil)) (blkOk_by (own := [("_law_k", 4)]) (N := ["_law_net", "_law_giver", "_law_clean", "_law_count", "_law_k"]) (sc := defScope s_law_as_clean) (by decide +kernel)) (fun _ _ _ _ _ => (pg_name (i := 4) sc_law_as_clean.nd rfl (Or.inl rfl))) (fun _ _ _ _ _ => pts_nil) (fun _ _ _ _ _ => (pe_meth (pv 1) T.K_Giver T.Me_Giver_own_tie (ok_Giver_own_tie T) (hr.mono (by decide)) T.b_Giver_own_tie .nil passL (pa_cons (pv 4) pa_nil)))) (pe_lc (own := [("_law_k", 4)]) (by rfl) sc_law_as_clean.nd (pi_range1 (by rfl) T.z_range (pa_cons (pv 3) pa_nil)) (blkOk_by (own := [("_law_k", 4)]) (N := ["_law_net", "_law_giver", "_law_clean", "_law_count", "_law_k"]) (sc := defScope s_law_as_clean) (by decide +kernel)) (fun _ _ _ _ _ => (pg_name (i := 4) sc_law_as_clean.nd rfl (Or.inl rfl))) (fun _ _ _ _ _ => pts_nil) (fun _ _ _ _ _ => (pe_meth (pv 2) T.K_Giver T.Me_Giver_own_tie (ok_Giver_own_tie T) (hr.mono (by decide)) T.b_Giver_own_tie .nil passL (pa_cons (pv 4) pa_nil)))) (nomark _)) (pss_one (ps_ret pe_bl)) pss_nil)
      (pss_one (ps_ret (pe_cmpR op_isN (pe_call (ok_clash T) (hr.mono (by decide)) (by rfl) T.g_clash T.F_clash.kp T.b_clash .nil pass0 (pa_cons (pv 0) (pa_cons (pe_meth0 (pv 1) T.K_Giver T.Me_Giver_ways (ok_Giver_ways T) (hr.mono (by decide)) T.b_Giver_ways .nil pass0 ) (pa_cons (pe_meth0 (pv 1) T.K_Giver T.Me_Giver_hues (ok_Giver_hues T) (hr.mono (by decide)) T.b_Giver_hues .nil pass0 ) pa_nil)))) pe_non (nomark _)))))), pure_law_as_clean T h⟩


theorem GvAt.there {H : Hp} {g : Gv} {n : Int} {ws : List (Int × Int)} {es : List Ent} {hs os : List Int} (h : GvAt K A H g n ws es hs os) : ∀ x ∈ g.cells, H x ≠ none := by
  intro x hx
  obtain ⟨ys, h6, _⟩ := h.come
  obtain ⟨zs, h7, _⟩ := h.lain
  unfold Gv.cells at hx
  simp only [List.mem_append, List.mem_cons, List.not_mem_nil, or_false] at hx
  rcases hx with rfl | hx | rfl | rfl | rfl | rfl | rfl | rfl | rfl
  · rw [h.up_.up_]; simp
  · obtain ⟨j, hj⟩ := List.mem_iff_getElem?.mp hx
    rw [h.up_.row j x hj]; simp
  · rw [h.own]; simp
  · rw [h.lev]; simp
  · rw [h.given]; simp
  · rw [h7]; simp
  · rw [h6]; simp
  · rw [h.net]; simp
  · rw [h.ins]; simp
theorem GvAt.apart {H : Hp} {T : List Addr} {g : Gv} {n : Int} {ws : List (Int × Int)} {es : List Ent} {hs os : List Int} (h : GvAt K A (hid T H) g n ws es hs os) {x : Addr} (hx : x ∈ T) : x ∉ g.cells := fun z => h.there x z (hid_in hx)
/-- a new Giver -/
theorem k_newGv {E : XK} {v1 : V} {H : Hp} {Q : VK} {n : Int} (TT : List Addr) (hT : ∀ x ∈ TT, H x ≠ none) (dn : Dp K H v1 (Net.line n).d) (ok : (Net.line n).ok) (q : ∀ (g : Gv) H', Same H H' → GvAt K A (hid TT H') g n [] [] [] [] → (∀ x ∈ g.cells, H x = none) → Q (.ref g.a) H') : newI A.c_Giver (sp_Giver_init K A) E [v1] H Q := by
  intro x dx nx ndx ne
  have s1 : Same H (hid [x] (upd (upd H dx (.own x)) x (.ins A.c_Giver dx []))) := by
    rw [hid_upd (by simp)]
    intro b o hb
    rw [hid_ne (fun z => by rw [List.mem_singleton.mp z, nx] at hb; cases hb), upd_ne (fun z => by rw [z, ndx] at hb; cases hb)]
    exact hb
  have fre : ∀ r, upd (upd H dx (.own x)) x (.ins A.c_Giver dx []) r = none → H r = none := fun r h => by
    by_cases c : r = x
    · rw [c, upd_same] at h; cases h
    · rw [upd_ne c] at h
      by_cases d : r = dx
      · rw [d, upd_same] at h; cases h
      · rwa [upd_ne d] at h
  refine ⟨_, _, rfl, .inr ⟨x, dx, n, rfl, upd_same, dp_same s1 dn, ok, fun nt cm ln gv lv ow up rs H' S ea ent ecm eln egv elv eow eup lr rows nd fr => ⟨rfl, ?_⟩⟩⟩
  have frC : ∀ y ∈ (up :: (rs ++ [ow, lv, gv, ln, cm, nt, x])), H y = none := fun y hy => by
    by_cases c : y = x
    · rw [c]; exact nx
    · refine fre y (fr y ?_)
      simp only [List.mem_append, List.mem_cons, List.not_mem_nil, or_false] at hy ⊢
      rcases hy with h | h | h | h | h | h | h | h | h
      · exact .inl h
      · exact .inr (.inl h)
      · exact .inr (.inr (.inl h))
      · exact .inr (.inr (.inr (.inl h)))
      · exact .inr (.inr (.inr (.inr (.inl h))))
      · exact .inr (.inr (.inr (.inr (.inr (.inl h)))))
      · exact .inr (.inr (.inr (.inr (.inr (.inr (.inl h))))))
      · exact .inr (.inr (.inr (.inr (.inr (.inr (.inr h))))))
      · exact absurd h c
  have at_ : ∀ y o, y ∈ (up :: (rs ++ [ow, lv, gv, ln, cm, nt, x])) → H' y = some o → hid TT H' y = some o := fun y o hy e => by
    rw [hid_ne (fun z => hT y z (frC y hy))]; exact e
  refine q ⟨x, dx, nt, cm, ln, gv, lv, ow, up, rs⟩ H' ((s1.trans S).trans (hid_same _ _)) ⟨nd, ok.1, ok.2, at_ _ _ (by simp) ea, at_ _ _ (by simp) ent, ⟨[], at_ _ _ (by simp) ecm, .nil⟩, ⟨[], at_ _ _ (by simp) eln, rfl, fun k z e hz => by simp at hz⟩, at_ _ _ (by simp) egv, at_ _ _ (by simp) elv, at_ _ _ (by simp) eow, ⟨⟨dx, _, at_ _ _ (by simp) ea, rfl⟩, at_ _ _ (by simp) eup, lr, fun j r hr => at_ _ _ ?_ (rows j r hr)⟩⟩ frC
  exact List.mem_cons_of_mem _ (List.mem_append_left _ (List.mem_of_getElem? hr))
theorem gv_ok0 (n : Int) : GvOk n [] [] [] [] := ⟨(fun k w i h => by simp at h), rfl, (fun w z => by cases z), rfl, rfl, (fun k e h z => by simp at z), (fun j k e f _ z => by simp at z), (fun k e t z => by simp at z)⟩
theorem same_hid_app {C X : List Addr} {H H' : Hp} (f : ∀ x ∈ X, H x = none) (s : Same H H') : Same (hid C H) (hid (X ++ C) H') := fun b o hb => by
  obtain ⟨h1, h2⟩ := hid_some hb
  rw [hid_ne]
  · exact s _ _ h2
  · intro z
    rcases List.mem_append.mp z with z | z
    · rw [f b z] at h2; cases h2
    · exact h1 z
theorem own_one {es : List Ent} {w : Int × Int} {i : Nat} {t s : Int} (h : OwnOf es w i t) (h' : OwnOf es w i s) : t = s := by
  obtain ⟨a1, a2, a3⟩ := h
  obtain ⟨b1, b2, b3⟩ := h'
  rcases Int.lt_trichotomy t s with c | c | c
  · exact absurd a2 (b3 t a1 c)
  · exact c
  · exact absurd b2 (a3 s b1 c)


/-- the law's outer loop: over [c] + script[:z] -/
theorem law_frameN {BODY : TS} {c z : Int} {N : Nat} {m : Nat} {a : Addr} {ns : List Int} {H : Hp} {Q : VK} {n0 : L2.St → Hp → Prop} {bk ct : L2.St → Hp → Prop} (hz : z = N) (hn : ns.length ≤ 63) (ha : SqL K H a (ns.map V.int)) (q : ∀ H', Q (.bl true) H')
    (body : ∀ (cell : Int) (l : List (Option V)) (H3 H4 : Hp) (nx : L2.St → Hp → Prop), l.length = m → Same H3 H4 →
      BODY ⟨fun σ' H' => Same H3 H' ∧ ∃ l' : List (Option V), l'.length = m + 1 ∧ σ' = some (.ref a) :: l', Q, nx, fun σ' H' => Same H3 H' ∧ ∃ l' : List (Option V), l'.length = m + 1 ∧ σ' = some (.ref a) :: l'⟩ (some (.ref a) :: some (.int cell) :: l) H4) :
    tSeq (tFor (iList K (tOp rCat (tLst (tCons (tC (.int c)) tNil)) (tSl (rSlL K) (tVar 0) tNoPart (tPart (tC (.int z)))))) (gName 1) BODY) (tRet (tC (.bl true))) ⟨n0, Q, bk, ct⟩ (some (.ref a) :: List.replicate (m + 1) none) H := by
  wtm_at "s"
  refine ⟨sz (by simp), fun l1 n1 => ?_⟩
  have s1 := same_new (o := .lst [.int c]) n1
  have e1 := upd_same (H := H) (a := l1) (o := .lst [.int c])
  generalize upd H l1 (.lst [.int c]) = H1 at s1 e1 ⊢
  wtm_at "s"
  refine ⟨a, _, rfl, s1.seq ha, fun l2 n2 => ?_⟩
  rw [hz, cutTo N]
  have s2 := same_new (o := .lst ((ns.take N).map V.int)) n2
  have e2 := upd_same (H := H1) (a := l2) (o := .lst ((ns.take N).map V.int))
  generalize upd H1 l2 (.lst ((ns.take N).map V.int)) = H2 at s2 e2 ⊢
  refine k_cat (s2 _ _ e1) e2 (by simp; omega) (fun l3 n3 => ?_)
  have e3 : upd H2 l3 (.lst ([.int c] ++ (ns.take N).map V.int)) l3 = some (.lst ((c :: ns.take N).map V.int)) := upd_same
  generalize upd H2 l3 (.lst ([.int c] ++ (ns.take N).map V.int)) = H3 at e3 ⊢
  wtm_at "s"
  refine forL (sl e3) (fun i σ' H' => Same H3 H' ∧ ∃ l' : List (Option V), l'.length = m + 1 ∧ σ' = some (.ref a) :: l') ⟨Same.refl _, List.replicate (m + 1) none, by simp, rfl⟩ (fun i σ' H' _ e => e.1.seq (sl e3)) ?_ ?_
  · rintro i x σ' H4 hx ⟨sm, l', hl', rfl⟩
    rw [List.getElem?_map] at hx
    obtain ⟨cell, _, rfl⟩ := Option.map_eq_some_iff.mp hx
    cases l' with
    | nil => simp at hl'
    | cons y l => exact body cell l H3 H4 _ (by simpa using hl') sm
  · rintro σ' H' ⟨sm, l', hl', rfl⟩
    wtm_at "s"
    exact q _

theorem far29 : 0 < (10 : Int) ^ (29 : Int).toNat ∧ (10 : Int) ^ (29 : Int).toNat < 2 ^ 200 := by decide +kernel
theorem rep0 (n : Nat) : (List.replicate n [V.int 0]).flatten = List.map V.int (List.replicate n 0) := by
  induction n with
  | zero => rfl
  | succ n ih => rw [List.replicate_succ, List.flatten_cons, ih]; rfl
theorem tree0 {k : Nat} (h1 : 1 ≤ k) (h2 : k < 60) : TreeOk (List.replicate k 0) := by
  refine ⟨by simpa using h1, by simpa using h2, fun j hj => ?_⟩
  have : (List.replicate k (0 : Int)).getD j 0 = 0 := by
    rw [List.getD_eq_getElem?_getD]
    cases h : (List.replicate k (0 : Int))[j]? with
    | none => rfl
    | some x => exact List.eq_of_mem_replicate (List.mem_of_getElem? h)
  rw [this]; omega
theorem seqO4 {s1 s2 s3 s4 s5 : TS} {σ : L2.St} {H : Hp} {nx bk ct : L2.St → Hp → Prop} {rt : VK} (G : L2.St → Hp → Prop) (main : ∀ σ H, G σ H → s5 ⟨nx, rt, bk, ct⟩ σ H) (h : ∀ nx' : L2.St → Hp → Prop, (∀ σ H, G σ H → nx' σ H) → tSeq s1 (tSeq s2 (tSeq s3 s4)) ⟨nx', rt, bk, ct⟩ σ H) : tSeq s1 (tSeq s2 (tSeq s3 (tSeq s4 s5))) ⟨nx, rt, bk, ct⟩ σ H := h _ main
theorem le_keep {H H' : Hp} {pu : Addr} {k : Int} {C : List Addr} (L : Le H pu k) (n : pu ∉ C) (S : Same (hid C H) (hid C H')) : Le H' pu k := by
  obtain ⟨x, f, hp, hx⟩ := L.hp
  exact ⟨⟨x, f, keeps S hp n, hx⟩, L.k0⟩
theorem own_same {n : Int} {ws : List (Int × Int)} {es : List Ent} {e : Ent} {hs hs' os : List Int} {t t' : Int} (o : GvOk n ws (es ++ [e]) hs (os ++ [t])) (o' : GvOk n ws (es ++ [e]) hs' (os ++ [t'])) (lo : os.length = es.length) : t' = t := by
  have a := o.own es.length e t (by simp) (by rw [← lo]; simp)
  have b := o'.own es.length e t' (by simp) (by rw [← lo]; simp)
  exact own_one b a
theorem last_pair {H : Hp} {ys : List V} {ws : List (Int × Int)} {w : Int × Int} (d : DpAll K H ys ((ws ++ [w]).map dPair)) : ∃ v, atI ys (-1) = some v ∧ Dp K H v (dPair w) := by
  obtain ⟨v, hv, dv⟩ := dpa_get2 d (i := ws.length) (d := dPair w) (by rw [List.getElem?_map]; simp)
  have l := dpa_len d
  rw [List.length_map, List.length_append, List.length_singleton] at l
  refine ⟨v, ?_, dv⟩
  unfold atI
  rw [ixN_last (by omega)]
  show ys[ys.length - 1]? = some v
  rw [l]
  exact hv
theorem hue_pos {n : Int} {ws : List (Int × Int)} {es : List Ent} {e : Ent} {hs os : List Int} {h : Int} (o : GvOk n ws (es ++ [e]) (hs ++ [h]) os) (l : hs.length = es.length) : 0 ≤ h := by
  have h5 := o.hue es.length e h (by simp) (by rw [← l]; simp)
  have h6 := good_pos o.good e (by simp)
  unfold lvHues at h5
  split at h5 <;> simp only [List.mem_cons, List.not_mem_nil, or_false] at h5 <;> omega
theorem k_inF {H : Hp} {Q : VK} {p : Addr} {n : Nat} (e : H p = some (.lst (List.replicate n (V.bl true)))) (h : Q (.bl false) H) : rIn K false (.bl false) (.ref p) H Q := by
  refine ⟨p, _, rfl, .inl (sl e), rfl, by simp [flatV], ?_⟩
  rw [if_neg Bool.false_ne_true]
  have : inV (.bl false) (List.replicate n (V.bl true)) = false := by
    induction n with
    | zero => rfl
    | succ n ih =>
      show (eqV (.bl true) (.bl false) || inV (.bl false) (List.replicate n (V.bl true))) = false
      have e1 : inV (.bl false) (List.replicate n (V.bl true)) = false := by
        clear e h ih
        induction n with
        | zero => rfl
        | succ n ih => show (eqV (.bl true) (.bl false) || inV (.bl false) (List.replicate n (V.bl true))) = false; rw [ih]; rfl
      rw [e1]; rfl
  rw [this]; exact h

/-- what the law keeps of its two Givers, its purse and its net -/
structure Two (K : PySem.W.Frag) (A : Ad) (H7 H : Hp) (pu nt : Addr) (g1 g2 : Gv) (n kk : Int) (ws : List (Int × Int)) (es : List Ent) (hs hs' os : List Int) : Prop where
  L : Le H pu kk
  S : Same (hid [pu] H7) (hid ((g1.cells ++ g2.cells) ++ [pu]) H)
  a : GvAt K A (hid (g2.cells ++ [pu]) H) g1 n ws es hs os
  ao : GvOk n ws es hs os
  b : GvAt K A (hid (g1.cells ++ [pu]) H) g2 n ws es hs' os
  bo : GvOk n ws es hs' os
theorem Two.same {H7 H H' : Hp} {pu nt : Addr} {g1 g2 : Gv} {n kk : Int} {ws : List (Int × Int)} {es : List Ent} {hs hs' os : List Int} (t : Two K A H7 H pu nt g1 g2 n kk ws es hs hs' os) (s : Same H H') : Two K A H7 H' pu nt g1 g2 n kk ws es hs hs' os :=
  ⟨t.L.same s, t.S.trans (hid_mono s), t.a.same (hid_mono s), t.ao, t.b.same (hid_mono s), t.bo⟩
theorem Two.drawn {H7 H H' : Hp} {pu nt : Addr} {g1 g2 : Gv} {n kk k' : Int} {ws : List (Int × Int)} {es : List Ent} {hs hs' os : List Int} (t : Two K A H7 H pu nt g1 g2 n kk ws es hs hs' os) (L : Le H' pu k') (s : Same (hid [pu] H) (hid [pu] H')) : Two K A H7 H' pu nt g1 g2 n k' ws es hs hs' os :=
  ⟨L, t.S.trans (hid_more s (by simp)), t.a.same (hid_more s (by simp)), t.ao, t.b.same (hid_more s (by simp)), t.bo⟩
theorem Two.a0 {H7 H : Hp} {pu nt : Addr} {g1 g2 : Gv} {n kk : Int} {ws : List (Int × Int)} {es : List Ent} {hs hs' os : List Int} (t : Two K A H7 H pu nt g1 g2 n kk ws es hs hs' os) : GvAt K A H g1 n ws es hs os := t.a.same (hid_same _ _)
theorem Two.b0 {H7 H : Hp} {pu nt : Addr} {g1 g2 : Gv} {n kk : Int} {ws : List (Int × Int)} {es : List Ent} {hs hs' os : List Int} (t : Two K A H7 H pu nt g1 g2 n kk ws es hs hs' os) : GvAt K A H g2 n ws es hs' os := t.b.same (hid_same _ _)
theorem Two.at1 {H7 H : Hp} {pu nt : Addr} {g1 g2 : Gv} {n kk : Int} {ws : List (Int × Int)} {es : List Ent} {hs hs' os : List Int} (t : Two K A H7 H pu nt g1 g2 n kk ws es hs hs' os) : ∀ x ∈ g2.cells ++ [pu], H x ≠ none := fun x hx => by
  rcases List.mem_append.mp hx with hx | hx
  · exact t.b0.there x hx
  · rw [List.mem_singleton.mp hx]
    obtain ⟨x, f, hp, _⟩ := t.L.hp
    rw [hp]; simp
theorem Two.at2 {H7 H : Hp} {pu nt : Addr} {g1 g2 : Gv} {n kk : Int} {ws : List (Int × Int)} {es : List Ent} {hs hs' os : List Int} (t : Two K A H7 H pu nt g1 g2 n kk ws es hs hs' os) : ∀ x ∈ g1.cells ++ [pu], H x ≠ none := fun x hx => by
  rcases List.mem_append.mp hx with hx | hx
  · exact t.a0.there x hx
  · rw [List.mem_singleton.mp hx]
    obtain ⟨x, f, hp, _⟩ := t.L.hp
    rw [hp]; simp
theorem Two.len {H7 H : Hp} {pu nt : Addr} {g1 g2 : Gv} {n kk : Int} {ws : List (Int × Int)} {es : List Ent} {hs hs' os : List Int} (t : Two K A H7 H pu nt g1 g2 n kk ws es hs hs' os) : es.length = ws.length := by
  have := congrArg List.length t.ao.tie
  simpa only [List.length_map] using this
/-- [giver.ways(), giver.hues(), giver.levels()] -/
theorem rd_kept (T : Txt K mg A) {σ : L2.St} {i : Nat} {g : Gv} {H : Hp} {Q : VK} {n kk : Int} {pu : Addr} {ws : List (Int × Int)} {es : List Ent} {hs os : List Int} (hv : σ[i]? = some (some (.ref g.a))) (ga : GvAt K A (hid [pu] H) g n ws es hs os) (L : Le H pu kk)
    (h : ∀ kp vs H', Same H H' → hid [pu] H' kp = some (.lst vs) → DpAll K (hid [pu] H') vs [dPairs ws, dInts hs, dInts (es.map fun e => (e.2 : Int))] → Q (.ref kp) H') :
    mF A.c_Giver (Str.ofString "ways") (V.ref g.a) H (tNil σ H fun vs H2 => sp_Giver_ways K A (V.ref g.a :: vs) H2 (fun x H1 => tCons (tMeth A.c_Giver (Str.ofString "hues") (sp_Giver_hues K A) [] E0 (tVar i) tNil) (tCons (tMeth A.c_Giver (Str.ofString "levels") (sp_Giver_levels K A) [] E0 (tVar i) tNil) tNil) σ H1 fun xs H2 => newL (x :: xs) H2 Q) E0) := by
  have ga0 := ga.same (hid_same _ _)
  obtain ⟨ys, ecm, dys⟩ := ga0.come
  have dys1 : DpAll K (hid [pu] H) ys (ws.map dPair) := by
    obtain ⟨ys', e', d'⟩ := ga.come
    rw [hid_same _ _ _ _ e'] at ecm
    cases ecm
    exact dpa_hid d'
  refine k_mF ga0.ins rfl (k_nil ?_)
  refine ⟨_, rfl, g.a, g.dx, g.cm, _, ys, rfl, ga0.ins, rfl, ecm, fun p1 H1 np1 s1 e1 => ?_⟩
  refine k_cons ⟨_, hv, g.a, g.dx, _, rfl, s1 _ _ ga0.ins, rfl, k_nil ?_⟩
  refine ⟨_, rfl, g.a, g.dx, g.gv, _, _, rfl, s1 _ _ ga0.ins, rfl, s1 _ _ ga0.given, fun p2 H2 np2 s2 e2 => ?_⟩
  have s02 := s1.trans s2
  refine k_cons ⟨_, hv, g.a, g.dx, _, rfl, s02 _ _ ga0.ins, rfl, k_nil ?_⟩
  refine ⟨_, rfl, g.a, g.dx, g.lv, _, _, rfl, s02 _ _ ga0.ins, rfl, s02 _ _ ga0.lev, fun p3 H3 np3 s3 e3 => ?_⟩
  have s03 := s02.trans s3
  refine k_nil (kLp (L.same s03) (by simp) (fun kp H4 nkp s4 e4 => ?_))
  have f1 : p1 ∉ [pu] := L.fresh np1
  have f2 : p2 ∉ [pu] := (L.same s1).fresh np2
  have f3 : p3 ∉ [pu] := (L.same s02).fresh np3
  refine h kp _ H4 (s03.trans s4) e4 (.cons (.lst (sl (xs := ys) ?_) (dpa_same (hid_mono (s03.trans s4)) dys1)) (.cons (dp_of_ints (sl ?_)) (.cons (dp_of_ints (sl ?_)) .nil)))
  · rw [hid_ne f1]; exact (s2.trans (s3.trans s4)) _ _ e1
  · rw [hid_ne f2]; exact (s3.trans s4) _ _ e2
  · rw [hid_ne f3]; exact s4 _ _ e3
theorem sh_kept {n : Nat} (ws : List (Int × Int)) (hs ls : List Int) : Sh (n + 3) (.list [dPairs ws, dInts hs, dInts ls]) := sh_list fun d hd => by
  simp only [List.mem_cons, List.not_mem_nil, or_false] at hd
  rcases hd with rfl | rfl | rfl
  · exact sh_pairs _
  · exact sh_ints _
  · exact sh_ints _

def sp_law (K : PySem.W.Frag) : Sp := fun vs H Q _ => ∃ (a : Addr) (ns : List Int), vs = [.ref a] ∧ SqL K H a (ns.map V.int) ∧ ns.length ≤ 63 ∧ ∀ H', Q (.bl true) H'
def t_law (K : PySem.W.Frag) (A : Ad) : TS :=
  (tSeq (tFor (iList K (tOp rCat (tLst (tCons (tC (.int 0)) tNil)) (tSl (rSlL K) (tVar 0) tNoPart (tPart (tC (.int 6)))))) (gName 1)
      (tSeq (tAsg (tCall (sp_law_left K) [] E0 (tCons (tLst (tCons (tVar 1) tNil)) (tCons (tC (.int 0)) tNil))) (gName 2))
    (tSeq (tAsg (tCall (sp_law_line K) [] E0 (tCons (tVar 2) tNil)) (gName 3))
    (tSeq (tAsg (tMake A.c_Giver (sp_Giver_init K A) [] E0 (tCons (tVar 3) tNil)) (gName 4))
    (tSeq (tAsg (tMake A.c_Giver (sp_Giver_init K A) [] E0 (tCons (tVar 3) tNil)) (gName 5))
    (tSeq (tAsg (tOp xAdd (tC (.int 35)) (tCall (sp_law_draw K) [] E0 (tCons (tVar 2) (tCons (tC (.int 6)) tNil)))) (gName 6))
    (tSeq (tAsg (tCall (sp_law_draw K) [] E0 (tCons (tVar 2) (tCons (tOp xPow (tC (.int 10)) (tC (.int 29))) tNil))) (gName 7))
    (tSeq (tFor (iRng1 (tCons (tVar 6) tNil)) (gName 8)
      (tSeq (tAsg (tCall (sp_law_way K) [] E0 (tCons (tVar 2) (tCons (tOp (rIxT K) (tVar 3) (tC (.int 1))) tNil))) (gName 9))
    (tSeq (tAsg (tOp (rIxL K) (tLst (tCons (tTup (tCons (tOp (rIxT K) (tVar 9) (tC (.int 0))) (tCons (tOp (rIxT K) (tVar 9) (tC (.int 0))) tNil))) (tCons (tTup (tCons (tUn xNeg (tC (.int 1))) (tCons (tOp (rIxT K) (tVar 9) (tC (.int 1))) tNil))) (tCons (tTup (tCons (tOp (rIxT K) (tVar 9) (tC (.int 0))) (tCons (tOp (rIxT K) (tVar 3) (tC (.int 1))) tNil))) (tCons (tTup (tCons (tOp xAdd (tOp (rIxT K) (tVar 3) (tC (.int 1))) (tVar 7)) (tCons (tC (.int 0)) tNil))) (tCons (tTup (tCons (tC (.int 0)) (tCons (tOp xSub (tUn xNeg (tC (.int 1))) (tVar 7)) tNil))) tNil)))))) (tOp xMod (tVar 8) (tC (.int 5)))) (gName 10))
    (tSeq (tIfS (tOr (tTest (tOp rNe (tCall (sp_law_refused K A) [] E0 (tCons (tVar 4) (tCons (tVar 10) tNil))) (tC (.str (Str.ofString "none"))))) (tOr (tTest (tOp xLt (tMeth A.c_Giver "put" (sp_Giver_put K A) [] E0 (tVar 4) (tCons (tVar 9) tNil)) (tC (.int 0)))) (tTest (tOp (rNeD K) (tOp (rIxL K) (tMeth A.c_Giver "ways" (sp_Giver_ways K A) [] E0 (tVar 4) tNil) (tUn xNeg (tC (.int 1)))) (tVar 9))))) (tRet (tC (.bl false))) tNext)
    (tDrop (tMeth A.c_Giver "put" (sp_Giver_put K A) [] E0 (tVar 5) (tCons (tVar 9) tNil)))))))
    (tSeq (tIfS (tNot (tB (tCall (sp_law_as_clean K A) [] E0 (tCons (tVar 3) (tCons (tVar 4) (tCons (tVar 5) (tCons (tVar 6) tNil))))))) (tRet (tC (.bl false))) tNext)
    (tSeq (tAsg (tLst (tCons (tMeth A.c_Giver "ways" (sp_Giver_ways K A) [] E0 (tVar 4) tNil) (tCons (tMeth A.c_Giver "hues" (sp_Giver_hues K A) [] E0 (tVar 4) tNil) (tCons (tMeth A.c_Giver "levels" (sp_Giver_levels K A) [] E0 (tVar 4) tNil) tNil)))) (gName 11))
    (tSeq (tAsg (tCall (sp_law_refused K A) [] E0 (tCons (tVar 4) (tCons (tTup (tCons (tC (.int 0)) (tCons (tC (.int 1)) tNil))) tNil))) (gName 12))
    (tSeq (tIfS (tOr (tTest (tOp rNe (tVar 12) (tOp (rIxL K) (tLst (tCons (tC (.str (Str.ofString "put"))) (tCons (tC (.str (Str.ofString "many"))) tNil))) (tCB rIntOf (tCons (tOp rEq (tVar 6) (tC (.int 40))) tNil))))) (tTest (tOp rNe (tCall (sp_law_refused K A) [] E0 (tCons (tVar 4) (tCons (tTup (tCons (tC (.int 1)) (tCons (tC (.int 1)) tNil))) tNil))) (tC (.str (Str.ofString "none")))))) (tRet (tC (.bl false))) tNext)
    (tSeq (tIfS (tTest (tOp xLt (tVar 6) (tC (.int 40)))) (tAsg (tLst (tCons (tMeth A.c_Giver "ways" (sp_Giver_ways K A) [] E0 (tVar 4) tNil) (tCons (tMeth A.c_Giver "hues" (sp_Giver_hues K A) [] E0 (tVar 4) tNil) (tCons (tMeth A.c_Giver "levels" (sp_Giver_levels K A) [] E0 (tVar 4) tNil) tNil)))) (gName 11)) tNext)
    (tSeq (tAsg (tCB (rLen K) (tCons (tOp (rIxL K) (tVar 11) (tC (.int 0))) tNil)) (gName 13))
    (tSeq (tIfS (tTest (tOp (rIn K false) (tC (.bl false)) (tLc (iList K (tLst (tCons (tUn xNeg (tC (.int 1))) (tCons (tVar 13) (tCons (tOp xAdd (tVar 13) (tVar 7)) (tCons (tOp xSub (tUn xNeg (tC (.int 1))) (tVar 7)) tNil)))))) (gName 15) tYes (tCall (sp_law_no_tie K A) [] E0 (tCons (tVar 4) (tCons (tVar 15) tNil))) [15]))) (tRet (tC (.bl false))) tNext)
    (tSeq (tIfS (tTest (tOp (rNeD K) (tLst (tCons (tMeth A.c_Giver "ways" (sp_Giver_ways K A) [] E0 (tVar 4) tNil) (tCons (tMeth A.c_Giver "hues" (sp_Giver_hues K A) [] E0 (tVar 4) tNil) (tCons (tMeth A.c_Giver "levels" (sp_Giver_levels K A) [] E0 (tVar 4) tNil) tNil)))) (tVar 11))) (tRet (tC (.bl false))) tNext)
    (tFor (iList K (tLst (tCons (tTup (tCons (tC (.str (Str.ofString "ring"))) (tCons (tOp xAdd (tC (.int 3)) (tCall (sp_law_draw K) [] E0 (tCons (tVar 2) (tCons (tC (.int 9)) tNil)))) tNil))) (tCons (tTup (tCons (tC (.str (Str.ofString "tree"))) (tCons (tOp rRep (tLst (tCons (tC (.int 0)) tNil)) (tOp xAdd (tC (.int 1)) (tCall (sp_law_draw K) [] E0 (tCons (tVar 2) (tCons (tC (.int 9)) tNil))))) tNil))) tNil)))) (gName 14)
      (tIfS (tOr (tNot (tB (tCall (sp_law_other K A) [] E0 (tCons (tVar 14) (tCons (tC (.int 0)) tNil))))) (tNot (tB (tCall (sp_law_other K A) [] E0 (tCons (tVar 14) (tCons (tC (.int 1)) tNil)))))) (tRet (tC (.bl false))) tNext))))))))))))))))))
    (tRet (tC (.bl true))))
theorem pure_law (T : Txt K mg A) {v0 : V} {H : Hp} {Q : VK} (h : ∃ (a : Addr) (ns : List Int), v0 = .ref a ∧ SqL K H a (ns.map V.int) ∧ ns.length ≤ 63 ∧ ∀ H', Q (.bl true) H') : t_law K A ⟨fun _ H' => Q .non H', Q, fun _ _ => False, fun _ _ => False⟩ [some v0, none, none, none, none, none, none, none, none, none, none, none, none, none, none, none] H := by
  obtain ⟨a, ns, rfl, ha, hz, q⟩ := h
  unfold t_law
  refine law_frameN (m := 14) (N := 6) rfl hz ha q ?_
  clear ha hz q H ns
  intro cell l H3 H4 nx hl sm
  match l, hl with
  | [k2, k3, k4, k5, k6, k7, k8, k9, k10, k11, k12, k13, k14, k15], _ =>
  wtm_at "s"
  refine kL (by simp) (fun c1 H5 nc1 s5 ec1 => ?_)
  wtm_at "s"
  refine ⟨_, _, rfl, c1, [cell], 0, rfl, rfl, sl ec1, by decide, fun pu H6 npu s6 L6 => ?_⟩
  have h0 : Same H5 (hid [pu] H6) := (hid_free1 npu).trans (hid_mono s6)
  wtm_at "s"
  refine ⟨_, rfl, pu, 0, rfl, L6, by decide, fun nt n H7 nnt nnt' L7 S7 ent n0 n1 => ?_⟩
  have dn : Dp K (hid [pu] H7) (.ref nt) (Net.line n).d := .tup (stp ent) (.cons (.str _) (.cons (.int _) .nil))
  have sB : Same H3 (hid [pu] H7) := sm.trans (s5.trans (h0.trans S7))
  have pu7 : ∀ b ∈ [pu], H7 b ≠ none := fun b z => by
    rw [List.mem_singleton.mp z]
    obtain ⟨x, f, hp, _⟩ := L7.hp
    rw [hp]; simp
  clear S7 nnt nnt' h0 L6 s6 npu s5 ec1 nc1 sm
  wtm_at "s"
  refine k_newGv [pu] pu7 (dp_same (hid_same _ _) dn) ⟨n0, n1⟩ (fun g1 H8 s8 ga8 fr1 => ?_)
  wtm_at "s"
  refine k_newGv (g1.cells ++ [pu]) (fun x hx => ?_) (dp_same ((hid_same _ _).trans s8) dn) ⟨n0, n1⟩ (fun g2 H9 s9 gb9 fr2 => ?_)
  · rcases List.mem_append.mp hx with hx | hx
    · exact (ga8.same (hid_same _ _)).there x hx
    · exact fun z => pu7 x hx (s8.free z)
  have t9 : Two K A H7 H9 pu nt g1 g2 n 2 [] [] [] [] [] := ⟨(L7.same s8).same s9, same_hid_app (fun x hx => by
    rcases List.mem_append.mp hx with hx | hx
    · exact fr1 x hx
    · exact s8.free (fr2 x hx)) (s8.trans s9), ga8.same (same_hid_app fr2 s9), gv_ok0 n, gb9, gv_ok0 n⟩
  clear pu7 L7 s8 s9 ga8 gb9 fr1 fr2
  wtm_at "s"
  refine ⟨_, _, rfl, pu, 2, 6, rfl, rfl, t9.L, by decide, by decide, by decide, fun r H10 r0 r1 L10 S10 => ?_⟩
  wtm_at "s"
  refine ⟨_, _, rfl, pu, 2 + 1, _, rfl, rfl, L10, by decide, far29.1, far29.2, fun far H11 f0 f1 L11 S11 => ?_⟩
  have t11 := t9.drawn L11 (S10.trans S11)
  clear t9 S10 S11 L10 L11 f1
  wtm_at "s"
  refine forR (fun k σ' H' => ∃ (ws : List (Int × Int)) (es : List Ent) (hs hs' os : List Int) (kk : Int), ws.length = k ∧ kk ≤ 4 + 2 * (k : Int) ∧ Two K A H7 H' pu nt g1 g2 n kk ws es hs hs' os ∧ ∃ k8 k9 k10, σ' = [some (.ref a), some (.int cell), some (.ref pu), some (.ref nt), some (.ref g1.a), some (.ref g2.a), some (.int (35 + r)), some (.int far), k8, k9, k10, k11, k12, k13, k14, k15])
    ⟨[], [], [], [], [], _, rfl, by omega, t11, _, _, _, rfl⟩ ?_ ?_
  · clear t11
    rintro k σ' G hk ⟨ws, es, hs, hs', os, kk, lw, hkk, t, k8, k9, k10, rfl⟩
    have hk' : k < 40 := by omega
    rw [Int.zero_add]
    have ent0 : SqT K G nt [.str (Str.ofString "line"), .int n] := same_seqT (t.S.trans (hid_same _ _)) (stp ent)
    wtm_at "s"
    refine ⟨_, _, rfl, pu, kk, n, rfl, rfl, t.L, by omega, n0, by omega, fun p x y G1 np np' L1 S1 ep ne x0 x1 y0 y1 => ?_⟩
    have t1 := t.drawn L1 S1
    have wok : isWay (.line n) x y := ⟨ne, x0, y0, x1, y1⟩
    have pc1 : p ∉ g1.cells := fun z => t.a0.there p z np
    have pc2 : p ∉ g2.cells := fun z => t.b0.there p z np
    have ent1 : SqT K G1 nt [.str (Str.ofString "line"), .int n] := same_seqT (t1.S.trans (hid_same _ _)) (stp ent)
    have fr : ∀ z, G1 z = none → z ∉ g1.cells := fun z h z' => t1.a0.there z z' h
    clear ent0 t S1 L1
    wtm_at "s"
    refine kT (by simp) (fun q1 G2 nq1 s2 e1 => ?_)
    wtm_at "s"
    refine kT (by simp) (fun q2 G3 nq2 s3 e2 => ?_)
    wtm_at "s"
    refine kT (by simp) (fun q3 G4 nq3 s4 e3 => ?_)
    wtm_at "s"
    refine kT (by simp) (fun q4 G5 nq4 s5 e4 => ?_)
    wtm_at "s"
    refine kT (by simp) (fun q5 G6 nq5 s6 e5 => ?_)
    wtm_at "s"
    refine kL (by simp) (fun l1 G7 nl1 s7 e6 => ?_)
    wtm_at "s"
    obtain ⟨b, bx, b2, hb, eb, fb, wno⟩ : ∃ b bx b2, atI [V.ref q1, .ref q2, .ref q3, .ref q4, .ref q5] ((k : Int) % 5) = some (.ref b) ∧ G7 b = some (.tup [.int bx, .int b2]) ∧ b ∉ g1.cells ∧ ¬ isWay (.line n) bx b2 := by
      have hm : (k : Int) % 5 = 0 ∨ (k : Int) % 5 = 1 ∨ (k : Int) % 5 = 2 ∨ (k : Int) % 5 = 3 ∨ (k : Int) % 5 = 4 := by omega
      rcases hm with h | h | h | h | h <;> rw [h]
      · exact ⟨q1, x, x, rfl, by wtm_at "at", fr q1 nq1, fun z => z.1 rfl⟩
      · exact ⟨q2, -1, y, rfl, by wtm_at "at", fr q2 (s2.free nq2), fun z => by have := z.2.1; omega⟩
      · exact ⟨q3, x, n, rfl, by wtm_at "at", fr q3 (s2.free (s3.free nq3)), fun z => by have h5 : n < n := z.2.2.2.2; omega⟩
      · exact ⟨q4, n + far, 0, rfl, by wtm_at "at", fr q4 (s2.free (s3.free (s4.free nq4))), fun z => by have h5 : n + far < n := z.2.2.2.1; omega⟩
      · exact ⟨q5, 0, -1 - far, rfl, by wtm_at "at", fr q5 (s2.free (s3.free (s4.free (s5.free nq5)))), fun z => by have := z.2.2.1; omega⟩
    refine k_ixL (sl e6) hb ?_
    have s17 : Same G1 G7 := by wtm_at "sm"
    have t7 := t1.same s17
    have ep7 := s17 _ _ ep
    have ent7 := same_seqT s17 ent1
    clear e1 e2 e3 e4 e5 e6 hb s2 s3 s4 s5 s6 s7 nq1 nq2 nq3 nq4 nq5 nl1 t1 ep ent1 fr s17
    have le := t7.len
    wtm_at "s"
    refine ⟨_, _, rfl, g1, n, _, ws, es, hs, os, bx, b2, rfl, t7.a, t7.ao, t7.at1, dp_of_pair (stp (by rw [hid_ne fb]; exact eb)), by omega, (fun _ G8 s8 => ?_), (fun z => absurd z wno), (fun z => absurd z wno)⟩
    have t8 := t7.same s8
    have ep8 := s8 _ _ ep7
    have ent8 := same_seqT s8 ent7
    clear t7 ep7 ent7 eb fb wno
    wtm_at "s"
    refine k_neS ?_
    rw [s_same]
    wtm_at "s"
    refine k_mF t8.a0.ins rfl ?_
    wtm_at "s"
    refine ⟨_, _, rfl, g1, n, _, ws, es, hs, os, x, y, rfl, t8.a, t8.ao, t8.at1, dp_of_pair (stp (by rw [hid_ne pc1]; exact ep8)), by omega, (fun z => absurd wok z), (fun _ z => by omega), fun _ _ h i t G9 S9 lv hi ga9 gok9 => ?_⟩
    have h0 : 0 ≤ h := hue_pos gok9 t8.ao.lh
    have L9 := le_keep t8.L (t8.a.apart (by simp)) S9
    have gb9 := t8.b.same (hid_more S9 (fun z hz => List.mem_append_left _ hz))
    have SS9 := t8.S.trans (hid_more S9 (fun z hz => List.mem_append_left _ (List.mem_append_left _ hz)))
    have ep9 := keeps S9 ep8 pc1
    wtm_at "s"
    refine k_mF (ga9.same (hid_same _ _)).ins rfl ?_
    wtm_at "s"
    obtain ⟨ys, ecm, dys⟩ := (ga9.same (hid_same _ _)).come
    refine ⟨_, rfl, g1.a, g1.dx, g1.cm, _, ys, rfl, (ga9.same (hid_same _ _)).ins, rfl, ecm, fun q1 GA nq1 sA eq1 => ?_⟩
    obtain ⟨v, hv, dv⟩ := last_pair dys
    wtm_at "s"
    refine k_ixL (sl eq1) hv ?_
    wtm_at "s"
    refine k_neD0 (n := 2) (c := dPair (x, y)) (dp_same ((hid_same _ _).trans sA) dv) (dp_of_pair (stp (sA _ _ ep9))) (sh_pair _) (by decide) ?_
    have gbA := gb9.same (hid_mono sA)
    have gaA := ga9.same (hid_mono sA)
    have LA := L9.same sA
    have SSA := SS9.trans (hid_mono sA)
    have epA := sA _ _ ep9
    have atA : ∀ z ∈ g1.cells ++ [pu], GA z ≠ none := fun z hz => by
      rcases List.mem_append.mp hz with hz | hz
      · exact (gaA.same (hid_same _ _)).there z hz
      · rw [List.mem_singleton.mp hz]
        obtain ⟨x, f, hp, _⟩ := LA.hp
        rw [hp]; simp
    have bo := t8.bo
    have lo := t8.ao.lo
    clear t8 S9 ga9 gb9 L9 SS9 ep9 ep8 dys ecm eq1 hv dv
    wtm_at "s"
    refine k_mF (gbA.same (hid_same _ _)).ins rfl ?_
    wtm_at "s"
    refine ⟨_, _, rfl, g2, n, _, ws, es, hs', os, x, y, rfl, gbA, bo, atA, dp_of_pair (stp (by rw [hid_ne pc2]; exact epA)), by omega, (fun z => absurd wok z), (fun _ z => by omega), fun _ _ h' i' t' GB SB lv' hi' gbB gokB => ?_⟩
    obtain rfl : i' = i := level_one lv' lv
    obtain rfl : t' = t := own_same gok9 gokB lo
    wtm_at "s"
    exact ⟨ws ++ [(x, y)], _, _, _, _, _, by simp [lw], by omega, ⟨le_keep LA (gbA.apart (by simp)) SB, SSA.trans (hid_more SB (fun z hz => List.mem_append_left _ (List.mem_append_right _ hz))), gaA.same (hid_more SB (fun z hz => List.mem_append_left _ hz)), gok9, gbB, gokB⟩, _, _, _, rfl⟩
  · clear t11
    rintro σ' G ⟨ws, es, hs, hs', os, kk, lw, hkk, t, k8, k9, k10, rfl⟩
    have le := t.len
    have lo := t.ao.lo
    have lh := t.ao.lh
    have dn0 : Dp K G (.ref nt) (Net.line n).d := dp_same (t.S.trans (hid_same _ _)) dn
    refine seqO (fun σ' H' => σ' = [some (.ref a), some (.int cell), some (.ref pu), some (.ref nt), some (.ref g1.a), some (.ref g2.a), some (.int (35 + r)), some (.int far), k8, k9, k10, k11, k12, k13, k14, k15] ∧ Two K A H7 H' pu nt g1 g2 n kk ws es hs hs' os) ?_ (fun nx' go' => ?_)
    case refine_2 =>
      wtm_at "s"
      refine ⟨_, _, _, _, rfl, g1, g2, n, ws, es, hs, hs', os, rfl, rfl, by congr 1; omega, dn0, t.a0, t.b0, t.ao, by omega, fun G1 s1 => ?_⟩
      wtm_at "s"
      exact go' _ _ ⟨rfl, t.same s1⟩
    clear t dn0
    rintro σ' G1 ⟨rfl, t1⟩
    refine seqO4 (fun σ' H' => ∃ (ws : List (Int × Int)) (es : List Ent) (hs os : List Int) (kk : Int) (kp : Addr) (vs : List V) (k12 : Option V), σ' = [some (.ref a), some (.int cell), some (.ref pu), some (.ref nt), some (.ref g1.a), some (.ref g2.a), some (.int (35 + r)), some (.int far), k8, k9, k10, some (.ref kp), k12, k13, k14, k15] ∧ kk ≤ 100 ∧ Le H' pu kk ∧ Same H3 (hid [pu] H') ∧ GvAt K A (hid [pu] H') g1 n ws es hs os ∧ es.length = ws.length ∧ hid [pu] H' kp = some (.lst vs) ∧ DpAll K (hid [pu] H') vs [dPairs ws, dInts hs, dInts (es.map fun e => (e.2 : Int))]) ?_ (fun nx' go' => ?_)
    case refine_2 =>
      have sub1 : ∀ z ∈ [pu], z ∈ g2.cells ++ [pu] := fun z hz => List.mem_append_right _ hz
      have sub2 : ∀ z ∈ [pu], z ∈ (g1.cells ++ g2.cells) ++ [pu] := fun z hz => List.mem_append_right _ hz
      wtm_at "s"
      refine rd_kept T rfl (t1.a.same (hid_sub sub1)) t1.L (fun kp vs G2 s2 ekp dvs => ?_)
      have t2 := t1.same s2
      wtm_at "s"
      refine kT (by simp) (fun q1 G3 nq1 s3 e3 => ?_)
      have t3 := t2.same s3
      have f1 : q1 ∉ g1.cells := fun z => t2.a0.there q1 z nq1
      have w01 : isWay (.line n) 0 1 := ⟨by decide, by decide, by decide, by show (0 : Int) < n; omega, by show (1 : Int) < n; omega⟩
      wtm_at "s"
      refine ⟨_, _, rfl, g1, n, _, ws, es, hs, os, 0, 1, rfl, t3.a, t3.ao, t3.at1, dp_of_pair (stp (by rw [hid_ne f1]; exact e3)), by omega, (fun z => absurd w01 z), (fun _ l40 G4 s4 => ?_), (fun _ l40 h i tt G4 S4 lv hi ga4 gok4 => ?_)⟩
      · have t4 := t3.same s4
        wtm_at "s"
        refine kL (by simp) (fun q2 G5 nq2 s5 e5 => ?_)
        wtm_at "s"
        rw [if_pos (decide_eq_true (show (35 : Int) + r = 40 by omega))]
        refine k_ixL (sl e5) (v := .str (Str.ofString "many")) rfl ?_
        refine k_neS ?_
        rw [s_same]
        wtm_at "s"
        refine kT (by simp) (fun q3 G6 nq3 s6 e6 => ?_)
        have t6 := (t4.same s5).same s6
        have f3 : q3 ∉ g1.cells := fun z => (t4.same s5).a0.there q3 z nq3
        wtm_at "s"
        refine ⟨_, _, rfl, g1, n, _, ws, es, hs, os, 1, 1, rfl, t6.a, t6.ao, t6.at1, dp_of_pair (stp (by rw [hid_ne f3]; exact e6)), by omega, (fun _ G7 s7 => ?_), (fun z => absurd rfl z.1), (fun z => absurd rfl z.1)⟩
        have t7 := t6.same s7
        have s27 : Same G2 G7 := s3.trans (s4.trans (s5.trans (s6.trans s7)))
        wtm_at "s"
        refine k_neS ?_
        rw [s_same]
        wtm_at "s"
        exact go' _ _ ⟨ws, es, hs, os, kk, kp, vs, _, rfl, by omega, t7.L, sB.trans (t7.S.trans (hid_sub sub2)), t7.a.same (hid_sub sub1), le, hid_mono s27 _ _ ekp, dpa_same (hid_mono s27) dvs⟩
      · have L4 := le_keep t3.L (t3.a.apart (by simp)) S4
        have SS4 := sB.trans ((t3.S.trans (hid_more S4 (fun z hz => List.mem_append_left _ (List.mem_append_left _ hz)))).trans (hid_sub sub2))
        have at4 : ∀ z ∈ g2.cells ++ [pu], G4 z ≠ none := fun z hz => by
          rcases List.mem_append.mp hz with hz | hz
          · have gb4 := t3.b.same (hid_more S4 (fun z hz => List.mem_append_left _ hz))
            exact (gb4.same (hid_same _ _)).there z hz
          · rw [List.mem_singleton.mp hz]
            obtain ⟨x, f, hp, _⟩ := L4.hp
            rw [hp]; simp
        wtm_at "s"
        refine kL (by simp) (fun q2 G5 nq2 s5 e5 => ?_)
        wtm_at "s"
        rw [if_neg (by rw [decide_eq_false (show ¬ (35 : Int) + r = 40 by omega)]; exact Bool.false_ne_true)]
        refine k_ixL (sl e5) (v := .str (Str.ofString "put")) rfl ?_
        refine k_neS ?_
        rw [s_same]
        wtm_at "s"
        refine kT (by simp) (fun q3 G6 nq3 s6 e6 => ?_)
        have ga6 := ga4.same (hid_mono (s5.trans s6))
        have f3 : q3 ∉ g1.cells := fun z => ((ga4.same (hid_mono s5)).same (hid_same _ _)).there q3 z nq3
        wtm_at "s"
        refine ⟨_, _, rfl, g1, n, _, _, _, _, _, 1, 1, rfl, ga6, gok4, (fun z hz h => at4 z hz ((s5.trans s6).free h)), dp_of_pair (stp (by rw [hid_ne f3]; exact e6)), by simp; omega, (fun _ G7 s7 => ?_), (fun z => absurd rfl z.1), (fun z => absurd rfl z.1)⟩
        have s47 := s5.trans (s6.trans s7)
        have ga7 := (ga4.same (hid_mono s47)).same (hid_sub sub1)
        have L7 := L4.same s47
        wtm_at "s"
        refine k_neS ?_
        rw [s_same]
        wtm_at "s"
        refine rd_kept T rfl ga7 L7 (fun kp vs G8 s8 ekp dvs => ?_)
        wtm_at "s"
        exact go' _ _ ⟨_, _, _, _, kk, kp, vs, _, rfl, by omega, L7.same s8, SS4.trans (hid_mono (s47.trans s8)), ga7.same (hid_mono s8), by simp [le], ekp, dvs⟩
    clear t1 sB dn ent lw hkk le lo lh
    rintro σ' G ⟨ws, es, hs, os, kk, kp, vs, k12, rfl, hkk, L, sB, ga, le, ekp, dvs⟩
    have ga0 := ga.same (hid_same _ _)
    obtain ⟨zs, ecm, dzs⟩ := ga0.come
    have lz : zs.length = ws.length := by rw [dpa_len dzs, List.length_map]
    cases dvs with | cons d0 dvs1 =>
    have d0' := d0
    obtain ⟨p0, ys0, rfl, hp0, dy0⟩ := dp_list d0
    have ly0 : ys0.length = ws.length := by rw [dpa_len dy0, List.length_map]
    have hp0' := (hid_same [pu] G).seq hp0
    wtm_at "s"
    refine k_ixL (sl (hid_same _ _ _ _ ekp)) (v := .ref p0) (atI_nat (j := 0) rfl) ?_
    wtm_at "s"
    refine kL (by simp) (fun l1 G1 nl1 s1 e1 => ?_)
    wtm_at "s"
    refine lc_grow (sl e1) [-1, (ys0.length : Int), (ys0.length : Int) + far, -1 - far] rfl (by simp) (fun _ => some (V.bl true)) ?_ (fun D G2 nD s2 eD => ?_)
    · intro i x p H' hx hp sm' R R0 g1' g2'
      have hxp : x = .int p := by
        have e : ([-1, (ys0.length : Int), (ys0.length : Int) + far, -1 - far].map V.int)[i]? = some x := hx
        rw [List.getElem?_map, hp] at e
        exact (Option.some.inj e).symm
      subst hxp
      have hm := List.mem_of_getElem? hp
      simp only [List.mem_cons, List.not_mem_nil, or_false] at hm
      have s' := s1.trans sm'
      wtm_at "s"
      exact ⟨_, _, rfl, g1.a, g1.dx, g1.ow, g1.cm, _, _, zs, p, rfl, rfl, s' _ _ ga0.ins, rfl, rfl, rfl, s' _ _ ecm, s' _ _ ga0.own, by omega, fun H'' s'' => g1' _ _ rfl s''⟩
    refine k_inF (n := 4) eD ?_
    have s12 := s1.trans s2
    wtm_at "s"
    refine rd_kept T rfl (ga.same (hid_mono s12)) (L.same s12) (fun kp' vs' G3 s3 ekp' dvs' => ?_)
    have s13 := s12.trans s3
    wtm_at "s"
    refine k_neD0 (n := 4) (.lst (sl ekp') dvs' |> dp_same (hid_same _ _)) (.lst (sl (hid_mono s13 _ _ ekp)) (dpa_same (hid_mono s13) (.cons d0' dvs1)) |> dp_same (hid_same _ _)) (sh_kept _ _ _) (by decide) ?_
    have L3 := L.same s13
    have sB3 := sB.trans (hid_mono s13)
    clear s13 ekp' dvs' s12 s3 eD s2 e1 s1 hp0' ga ekp d0' dvs1 ga0 ecm dzs dy0 hp0 L sB
    wtm_at "s"
    refine ⟨_, _, rfl, pu, _, 9, rfl, rfl, L3, by omega, by decide, by decide, fun d1 G4 d10 d11 L4 S4 => ?_⟩
    wtm_at "s"
    refine kTp L4 (by simp) (fun q1 G5 nq1 s5 e1 => ?_)
    have L5 := L4.same s5
    wtm_at "s"
    refine kLp L5 (by simp) (fun q2 G6 nq2 s6 e2 => ?_)
    have L6 := L5.same s6
    wtm_at "s"
    refine ⟨_, _, rfl, pu, _, 9, rfl, rfl, L6, by omega, by decide, by decide, fun d2 G7 d20 d21 L7 S7 => ?_⟩
    wtm_at "s"
    refine k_repN (by wtm_at "at") (by omega) (by omega) (by simp; omega) (fun q3 G8 nq3 s8 e3 => ?_)
    rw [rep0] at e3
    wtm_at "s"
    refine kT (by simp) (fun q4 G9 nq4 s9 e4 => ?_)
    wtm_at "s"
    refine kL (by simp) (fun q5 GA nq5 sA e5 => ?_)
    have all : ∀ (j : Nat) x, [V.ref q1, .ref q4][j]? = some x → ∃ N : Net, Dp K GA x N.d ∧ N.ok ∧ N.kind ≠ Str.ofString "line" := by
      intro j x hx
      have hm := List.mem_of_getElem? hx
      simp only [List.mem_cons, List.not_mem_nil, or_false] at hm
      rcases hm with rfl | rfl
      · exact ⟨.ring (3 + d1), .tup (st_at e1 (by wtm_at "sm")) (.cons (.str _) (.cons (.int _) .nil)), ⟨by omega, by omega⟩, of_decide_eq_false s_rl⟩
      · exact ⟨.tree (List.replicate (1 + d2).toNat 0), .tup (st_at e4 (by wtm_at "sm")) (.cons (.str _) (.cons (dpI_at e3 (by wtm_at "sm")) .nil)), tree0 (by omega) (by omega), of_decide_eq_false s_tl⟩
    have sBA : Same H3 GA := sB3.trans (S4.trans ((hid_mono s5).trans ((hid_mono s6).trans (S7.trans ((hid_same _ _).trans (s8.trans (s9.trans sA)))))))
    wtm_at "s"
    refine forL (sl e5) (fun j σ' H' => Same GA H' ∧ ∃ k14, σ' = [some (.ref a), some (.int cell), some (.ref pu), some (.ref nt), some (.ref g1.a), some (.ref g2.a), some (.int (35 + r)), some (.int far), k8, k9, k10, some (.ref kp), k12, some (.int ys0.length), k14, k15]) ⟨Same.refl _, _, rfl⟩ (fun j σ' H' _ e => e.1.seq (sl e5)) ?_ ?_
    · rintro j x σ' GB hx ⟨sb, k14, rfl⟩
      obtain ⟨N, dN, ok, hk⟩ := all j x hx
      wtm_at "s"
      refine ⟨_, _, rfl, 0, N, rfl, dp_same sb dN, ok, hk, fun GC sc => ?_⟩
      wtm_at "s"
      refine ⟨_, _, rfl, 1, N, rfl, dp_same (sb.trans sc) dN, ok, hk, fun GD sd => ?_⟩
      wtm_at "s"
      exact ⟨sb.trans (sc.trans sd), _, rfl⟩
    · rintro σ' GB ⟨sb, k14, rfl⟩
      exact ⟨sBA.trans sb, _, rfl, rfl⟩
theorem ok_law (T : Txt K mg A) : FnOk P w K mg base CX0 7 A.a_law A.d_law ["_law_script"] (sp_law K) := by
  refine T.F_law.ok sc_law (fun vs H Q E h => by obtain ⟨a, ns, rfl, _⟩ := h; rfl) (fun cdv A0 outer s H vs Q E hr h => ?_)
  obtain ⟨a, ns, rfl, h⟩ := h
  exact ⟨t_law K A, (pss_cons (ps_for PassesOwn.never rfl (pi_list (pe_op op_cat (pe_lst (pa_cons pe_int pa_nil)) (pe_slice sl_list (pv 0) po_none (po_some pe_int)))) (pg_name (i := 1) sc_law.nd rfl (Or.inl rfl))
      (pss_cons (ps_set (i := 2) sc_law.nd rfl (Or.inl rfl) (pe_call (ok_law_left T) (hr.mono (by decide)) (by rfl) T.g_law_left T.F_law_left.kp T.b_law_left .nil pass0 (pa_cons (pe_lst (pa_cons (pv 1) pa_nil)) (pa_cons pe_int pa_nil))))
      (pss_cons (ps_set (i := 3) sc_law.nd rfl (Or.inl rfl) (pe_call (ok_law_line T) (hr.mono (by decide)) (by rfl) T.g_law_line T.F_law_line.kp T.b_law_line .nil pass0 (pa_cons (pv 2) pa_nil)))
      (pss_cons (ps_set (i := 4) sc_law.nd rfl (Or.inr rfl) (pe_make T.M_Giver (ok_Giver_init T) (hr.mono (by decide)) (by rfl) T.k_Giver T.b_Giver_init .nil passL (pa_cons (pv 3) pa_nil)))
      (pss_cons (ps_set (i := 5) sc_law.nd rfl (Or.inl rfl) (pe_make T.M_Giver (ok_Giver_init T) (hr.mono (by decide)) (by rfl) T.k_Giver T.b_Giver_init .nil passL (pa_cons (pv 3) pa_nil)))
      (pss_cons (ps_set (i := 6) sc_law.nd rfl (Or.inl rfl) (pe_op op_add pe_int (pe_call (ok_law_draw T) (hr.mono (by decide)) (by rfl) T.g_law_draw T.F_law_draw.kp T.b_law_draw .nil pass0 (pa_cons (pv 2) (pa_cons pe_int pa_nil)))))
      (pss_cons (ps_set (i := 7) sc_law.nd rfl (Or.inl rfl) (pe_call (ok_law_draw T) (hr.mono (by decide)) (by rfl) T.g_law_draw T.F_law_draw.kp T.b_law_draw .nil pass0 (pa_cons (pv 2) (pa_cons (pe_op op_pow pe_int pe_int) pa_nil))))
      (pss_cons (ps_for PassesOwn.never rfl (pi_range1 (by rfl) T.z_range (pa_cons (pv 6) pa_nil)) (pg_name (i := 8) sc_law.nd rfl (Or.inl rfl))
      (pss_cons (ps_set (i := 9) sc_law.nd rfl (Or.inl rfl) (pe_call (ok_law_way T) (hr.mono (by decide)) (by rfl) T.g_law_way T.F_law_way.kp T.b_law_way .nil pass0 (pa_cons (pv 2) (pa_cons (pe_ix ix_tup (pv 3) pe_int (fun _ _ => rfl)) pa_nil))))
      (pss_cons (ps_set (i := 10) sc_law.nd rfl (Or.inl rfl) (pe_ix ix_list (pe_lst (pa_cons (pe_tup (pa_cons (pe_ix ix_tup (pv 9) pe_int (fun _ _ => rfl)) (pa_cons (pe_ix ix_tup (pv 9) pe_int (fun _ _ => rfl)) pa_nil))) (pa_cons (pe_tup (pa_cons (pe_un un_neg pe_int) (pa_cons (pe_ix ix_tup (pv 9) pe_int (fun _ _ => rfl)) pa_nil))) (pa_cons (pe_tup (pa_cons (pe_ix ix_tup (pv 9) pe_int (fun _ _ => rfl)) (pa_cons (pe_ix ix_tup (pv 3) pe_int (fun _ _ => rfl)) pa_nil))) (pa_cons (pe_tup (pa_cons (pe_op op_add (pe_ix ix_tup (pv 3) pe_int (fun _ _ => rfl)) (pv 7)) (pa_cons pe_int pa_nil))) (pa_cons (pe_tup (pa_cons pe_int (pa_cons (pe_op op_sub (pe_un un_neg pe_int) (pv 7)) pa_nil))) pa_nil)))))) (pe_op op_mod (pv 8) pe_int) (fun _ _ => rfl)))
      (pss_cons (ps_if (PW.pt (pw_or (pt_cmpR op_ne (pe_call (ok_law_refused T) (hr.mono (by decide)) (by rfl) T.g_law_refused T.F_law_refused.kp T.b_law_refused .nil pass0 (pa_cons (pv 4) (pa_cons (pv 10) pa_nil))) pe_str (nomark _)) (pw_or (pt_cmpR op_lt (pe_meth (pv 4) T.K_Giver T.Me_Giver_put (ok_Giver_put T) (hr.mono (by decide)) T.b_Giver_put .nil passL (pa_cons (pv 9) pa_nil)) pe_int (nomark _)) (pw_or1 (pt_cmpR (op_neD hr.units) (pe_ix ix_list (pe_meth0 (pv 4) T.K_Giver T.Me_Giver_ways (ok_Giver_ways T) (hr.mono (by decide)) T.b_Giver_ways .nil pass0 ) (pe_un un_neg pe_int) (fun _ _ => rfl)) (pv 9) (nomark _)))))) (pss_one (ps_ret pe_bl)) pss_nil)
      (pss_one (ps_expr (pe_meth (pv 5) T.K_Giver T.Me_Giver_put (ok_Giver_put T) (hr.mono (by decide)) T.b_Giver_put .nil passL (pa_cons (pv 9) pa_nil))))))))
      (pss_cons (ps_if (pt_not (pt_val (pe_call (ok_law_as_clean T) (hr.mono (by decide)) (by rfl) T.g_law_as_clean T.F_law_as_clean.kp T.b_law_as_clean .nil pass0 (pa_cons (pv 3) (pa_cons (pv 4) (pa_cons (pv 5) (pa_cons (pv 6) pa_nil))))))) (pss_one (ps_ret pe_bl)) pss_nil)
      (pss_cons (ps_set (i := 11) sc_law.nd rfl (Or.inl rfl) (pe_lst (pa_cons (pe_meth0 (pv 4) T.K_Giver T.Me_Giver_ways (ok_Giver_ways T) (hr.mono (by decide)) T.b_Giver_ways .nil pass0 ) (pa_cons (pe_meth0 (pv 4) T.K_Giver T.Me_Giver_hues (ok_Giver_hues T) (hr.mono (by decide)) T.b_Giver_hues .nil pass0 ) (pa_cons (pe_meth0 (pv 4) T.K_Giver T.Me_Giver_levels (ok_Giver_levels T) (hr.mono (by decide)) T.b_Giver_levels .nil pass0 ) pa_nil)))))
      (pss_cons (ps_set (i := 12) sc_law.nd rfl (Or.inl rfl) (pe_call (ok_law_refused T) (hr.mono (by decide)) (by rfl) T.g_law_refused T.F_law_refused.kp T.b_law_refused .nil pass0 (pa_cons (pv 4) (pa_cons (pe_tup (pa_cons pe_int (pa_cons pe_int pa_nil))) pa_nil))))
      (pss_cons (ps_if (PW.pt (pw_or (pt_cmpR op_ne (pv 12) (pe_ix ix_list (pe_lst (pa_cons pe_str (pa_cons pe_str pa_nil))) (pe_callTy q_intB (by rfl) T.z_int (by decide +kernel) (pa_cons (pe_cmpR op_eq (pv 6) pe_int (nomark _)) pa_nil)) (fun _ _ => rfl)) (nomark _)) (pw_or1 (pt_cmpR op_ne (pe_call (ok_law_refused T) (hr.mono (by decide)) (by rfl) T.g_law_refused T.F_law_refused.kp T.b_law_refused .nil pass0 (pa_cons (pv 4) (pa_cons (pe_tup (pa_cons pe_int (pa_cons pe_int pa_nil))) pa_nil))) pe_str (nomark _))))) (pss_one (ps_ret pe_bl)) pss_nil)
      (pss_cons (ps_if (pt_cmpR op_lt (pv 6) pe_int (nomark _)) (pss_one (ps_set (i := 11) sc_law.nd rfl (Or.inl rfl) (pe_lst (pa_cons (pe_meth0 (pv 4) T.K_Giver T.Me_Giver_ways (ok_Giver_ways T) (hr.mono (by decide)) T.b_Giver_ways .nil pass0 ) (pa_cons (pe_meth0 (pv 4) T.K_Giver T.Me_Giver_hues (ok_Giver_hues T) (hr.mono (by decide)) T.b_Giver_hues .nil pass0 ) (pa_cons (pe_meth0 (pv 4) T.K_Giver T.Me_Giver_levels (ok_Giver_levels T) (hr.mono (by decide)) T.b_Giver_levels .nil pass0 ) pa_nil)))))) pss_nil)
      (pss_cons (ps_set (i := 13) sc_law.nd rfl (Or.inl rfl) (pe_callB q_len (by rfl) T.z_len (by decide +kernel) (pa_cons (pe_ix ix_list (pv 11) pe_int (fun _ _ => rfl)) pa_nil)))
      (pss_cons (ps_if (pt_cmpR op_in_seq pe_bl (pe_lc (own := [("_law_number", 15)]) (by rfl) sc_law.nd (pi_list (pe_lst (pa_cons (pe_un un_neg pe_int) (pa_cons (pv 13) (pa_cons (pe_op op_add (pv 13) (pv 7)) (pa_cons (pe_op op_sub (pe_un un_neg pe_int) (pv 7)) pa_nil)))))) (blkOk_by (own := [("_law_number", 15)]) (N := ["_law_script", "_law_cell", "_law_left_here", "_law_net", "_law_giver", "_law_clean", "_law_count", "_law_far", "_law_k", "_law_way_here", "_law_bad", "_law_kept", "_law_last", "_law_many", "_law_other_here", "_law_number"]) (sc := defScope s_law) (by decide +kernel)) (fun _ _ _ _ _ => (pg_name (i := 15) sc_law.nd rfl (Or.inl rfl))) (fun _ _ _ _ _ => pts_nil) (fun _ _ _ _ _ => (pe_call (ok_law_no_tie T) (hr.mono (by decide)) (by rfl) T.g_law_no_tie T.F_law_no_tie.kp T.b_law_no_tie .nil pass0 (pa_cons (pv 4) (pa_cons (pv 15) pa_nil))))) (by rfl)) (pss_one (ps_ret pe_bl)) pss_nil)
      (pss_cons (ps_if (pt_cmpR (op_neD hr.units) (pe_lst (pa_cons (pe_meth0 (pv 4) T.K_Giver T.Me_Giver_ways (ok_Giver_ways T) (hr.mono (by decide)) T.b_Giver_ways .nil pass0 ) (pa_cons (pe_meth0 (pv 4) T.K_Giver T.Me_Giver_hues (ok_Giver_hues T) (hr.mono (by decide)) T.b_Giver_hues .nil pass0 ) (pa_cons (pe_meth0 (pv 4) T.K_Giver T.Me_Giver_levels (ok_Giver_levels T) (hr.mono (by decide)) T.b_Giver_levels .nil pass0 ) pa_nil)))) (pv 11) (nomark _)) (pss_one (ps_ret pe_bl)) pss_nil)
      (pss_one (ps_for PassesOwn.never rfl (pi_list (pe_lst (pa_cons (pe_tup (pa_cons pe_str (pa_cons (pe_op op_add pe_int (pe_call (ok_law_draw T) (hr.mono (by decide)) (by rfl) T.g_law_draw T.F_law_draw.kp T.b_law_draw .nil pass0 (pa_cons (pv 2) (pa_cons pe_int pa_nil)))) pa_nil))) (pa_cons (pe_tup (pa_cons pe_str (pa_cons (pe_op op_rep (pe_lst (pa_cons pe_int pa_nil)) (pe_op op_add pe_int (pe_call (ok_law_draw T) (hr.mono (by decide)) (by rfl) T.g_law_draw T.F_law_draw.kp T.b_law_draw .nil pass0 (pa_cons (pv 2) (pa_cons pe_int pa_nil))))) pa_nil))) pa_nil)))) (pg_name (i := 14) sc_law.nd rfl (Or.inl rfl))
      (pss_one (ps_if (PW.pt (pw_or (pt_not (pt_val (pe_call (ok_law_other T) (hr.mono (by decide)) (by rfl) T.g_law_other T.F_law_other.kp T.b_law_other .nil pass0 (pa_cons (pv 14) (pa_cons pe_int pa_nil))))) (pw_or1 (pt_not (pt_val (pe_call (ok_law_other T) (hr.mono (by decide)) (by rfl) T.g_law_other T.F_law_other.kp T.b_law_other .nil pass0 (pa_cons (pv 14) (pa_cons pe_int pa_nil)))))))) (pss_one (ps_ret pe_bl)) pss_nil))))))))))))))))))))
      (pss_one (ps_ret pe_bl))), pure_law T ⟨a, ns, rfl, h⟩⟩

theorem all_mk {l : PySem.W.OpenLaw} {w : World} {K : PySem.W.Frag} {h : Heap} {mg : Str → Option Value} {fa : Addr} {f0 f1 f2 f3 f4 f5 f6 f7 f8 f9 f10 f11 f12 f13 f14 f15 f16 f17 f18 f19 f20 f21 f22 f23 f24 f25 f26 f27 f28 f29 f30 f31 f32 : Addr} (X : K.In h) (G : h.Ns mainGlobals mg) (hfa : mg "law" = some (.ref fa))
    {od0 an0 od1 an1 od2 an2 od3 an3 od4 an4 od5 an5 od6 an6 od7 an7 od8 an8 od9 an9 od10 an10 od11 an11 od12 an12 od13 an13 od14 an14 od15 an15 od16 an16 od17 an17 od18 an18 od19 an19 od20 an20 od21 an21 od22 an22 od23 an23 od24 an24 od25 an25 od26 an26 od27 an27 od28 an28 od29 an29 od30 an30 od31 an31 od32 an32 : Option Addr} {sl0 sl1 sl2 sl3 sl4 sl5 sl6 sl7 sl8 sl9 sl10 sl11 sl12 sl13 sl14 sl15 sl16 sl17 sl18 sl19 sl20 sl21 sl22 sl23 sl24 sl25 sl26 sl27 sl28 sl29 sl30 sl31 sl32 : Array (Option Value)} {oc0 kV0 dc0 pm0 cd0 ct0 oc1 kV1 dc1 pm1 cd1 ct1 oc2 kV2 dc2 pm2 cd2 ct2 oc3 kV3 dc3 pm3 cd3 ct3 oc4 kV4 dc4 pm4 cd4 ct4 oc5 kV5 dc5 pm5 cd5 ct5 oc6 kV6 dc6 pm6 cd6 ct6 oc7 kV7 dc7 pm7 cd7 ct7 oc8 kV8 dc8 pm8 cd8 ct8 oc9 kV9 dc9 pm9 cd9 ct9 oc10 kV10 dc10 pm10 cd10 ct10 oc11 kV11 dc11 pm11 cd11 ct11 oc12 kV12 dc12 pm12 cd12 ct12 oc13 kV13 dc13 pm13 cd13 ct13 oc14 kV14 dc14 pm14 cd14 ct14 oc15 kV15 dc15 pm15 cd15 ct15 oc16 kV16 dc16 pm16 cd16 ct16 oc17 kV17 dc17 pm17 cd17 ct17 oc18 kV18 dc18 pm18 cd18 ct18 oc19 kV19 dc19 pm19 cd19 ct19 oc20 kV20 dc20 pm20 cd20 ct20 oc21 kV21 dc21 pm21 cd21 ct21 oc22 kV22 dc22 pm22 cd22 ct22 oc23 kV23 dc23 pm23 cd23 ct23 oc24 kV24 dc24 pm24 cd24 ct24 oc25 kV25 dc25 pm25 cd25 ct25 oc26 kV26 dc26 pm26 cd26 ct26 oc27 kV27 dc27 pm27 cd27 ct27 oc28 kV28 dc28 pm28 cd28 ct28 oc29 kV29 dc29 pm29 cd29 ct29 oc30 kV30 dc30 pm30 cd30 ct30 oc31 kV31 dc31 pm31 cd31 ct31 oc32 kV32 dc32 pm32 cd32 ct32 : Value}
    {tk0 tk1 : Tok}
    (a0 : PySem.W.nsIn K mainGlobals "is_tree" = some (some (.ref f0))) (l0 : K.lookup f0 = some ⟨oc0, od0, .func (PySem.W.fnOf "is_tree" "is_tree" (defArgs s_is_tree) (defBody s_is_tree) (defScope s_is_tree) .none kV0 dc0 pm0 an0 cd0 ct0), sl0⟩) (c0 : PySem.W.codeIn K cd0 "is_tree" = true) (k0 : PySem.W.keepIn K (.ref f0) = true)
    (a1 : PySem.W.nsIn K mainGlobals "look_net" = some (some (.ref f1))) (l1 : K.lookup f1 = some ⟨oc1, od1, .func (PySem.W.fnOf "look_net" "look_net" (defArgs s_look_net) (defBody s_look_net) (defScope s_look_net) .none kV1 dc1 pm1 an1 cd1 ct1), sl1⟩) (c1 : PySem.W.codeIn K cd1 "look_net" = true) (k1 : PySem.W.keepIn K (.ref f1) = true)
    (a2 : PySem.W.nsIn K mainGlobals "must_be_kind" = some (some (.ref f2))) (l2 : K.lookup f2 = some ⟨oc2, od2, .func (PySem.W.fnOf "must_be_kind" "must_be_kind" (defArgs s_must_be_kind) (defBody s_must_be_kind) (defScope s_must_be_kind) .none kV2 dc2 pm2 an2 cd2 ct2), sl2⟩) (c2 : PySem.W.codeIn K cd2 "must_be_kind" = true) (k2 : PySem.W.keepIn K (.ref f2) = true)
    (a3 : PySem.W.nsIn K mainGlobals "places_of" = some (some (.ref f3))) (l3 : K.lookup f3 = some ⟨oc3, od3, .func (PySem.W.fnOf "places_of" "places_of" (defArgs s_places_of) (defBody s_places_of) (defScope s_places_of) .none kV3 dc3 pm3 an3 cd3 ct3), sl3⟩) (c3 : PySem.W.codeIn K cd3 "places_of" = true) (k3 : PySem.W.keepIn K (.ref f3) = true)
    (a4 : PySem.W.nsIn K mainGlobals "is_way" = some (some (.ref f4))) (l4 : K.lookup f4 = some ⟨oc4, od4, .func (PySem.W.fnOf "is_way" "is_way" (defArgs s_is_way) (defBody s_is_way) (defScope s_is_way) .none kV4 dc4 pm4 an4 cd4 ct4), sl4⟩) (c4 : PySem.W.codeIn K cd4 "is_way" = true) (k4 : PySem.W.keepIn K (.ref f4) = true)
    (a5 : PySem.W.nsIn K mainGlobals "ties_on" = some (some (.ref f5))) (l5 : K.lookup f5 = some ⟨oc5, od5, .func (PySem.W.fnOf "ties_on" "ties_on" (defArgs s_ties_on) (defBody s_ties_on) (defScope s_ties_on) .none kV5 dc5 pm5 an5 cd5 ct5), sl5⟩) (c5 : PySem.W.codeIn K cd5 "ties_on" = true) (k5 : PySem.W.keepIn K (.ref f5) = true)
    (a6 : PySem.W.nsIn K mainGlobals "must_be_ways" = some (some (.ref f6))) (l6 : K.lookup f6 = some ⟨oc6, od6, .func (PySem.W.fnOf "must_be_ways" "must_be_ways" (defArgs s_must_be_ways) (defBody s_must_be_ways) (defScope s_must_be_ways) .none kV6 dc6 pm6 an6 cd6 ct6), sl6⟩) (c6 : PySem.W.codeIn K cd6 "must_be_ways" = true) (k6 : PySem.W.keepIn K (.ref f6) = true)
    (a7 : PySem.W.nsIn K mainGlobals "look_ways" = some (some (.ref f7))) (l7 : K.lookup f7 = some ⟨oc7, od7, .func (PySem.W.fnOf "look_ways" "look_ways" (defArgs s_look_ways) (defBody s_look_ways) (defScope s_look_ways) .none kV7 dc7 pm7 an7 cd7 ct7), sl7⟩) (c7 : PySem.W.codeIn K cd7 "look_ways" = true) (k7 : PySem.W.keepIn K (.ref f7) = true)
    (a8 : PySem.W.nsIn K mainGlobals "first_clash" = some (some (.ref f8))) (l8 : K.lookup f8 = some ⟨oc8, od8, .func (PySem.W.fnOf "first_clash" "first_clash" (defArgs s_first_clash) (defBody s_first_clash) (defScope s_first_clash) .none kV8 dc8 pm8 an8 cd8 ct8), sl8⟩) (c8 : PySem.W.codeIn K cd8 "first_clash" = true) (k8 : PySem.W.keepIn K (.ref f8) = true)
    (a9 : PySem.W.nsIn K mainGlobals "clash" = some (some (.ref f9))) (l9 : K.lookup f9 = some ⟨oc9, od9, .func (PySem.W.fnOf "clash" "clash" (defArgs s_clash) (defBody s_clash) (defScope s_clash) .none kV9 dc9 pm9 an9 cd9 ct9), sl9⟩) (c9 : PySem.W.codeIn K cd9 "clash" = true) (k9 : PySem.W.keepIn K (.ref f9) = true)
    (a10 : PySem.W.nsIn K mainGlobals "hues_of" = some (some (.ref f10))) (l10 : K.lookup f10 = some ⟨oc10, od10, .func (PySem.W.fnOf "hues_of" "hues_of" (defArgs s_hues_of) (defBody s_hues_of) (defScope s_hues_of) .none kV10 dc10 pm10 an10 cd10 ct10), sl10⟩) (c10 : PySem.W.codeIn K cd10 "hues_of" = true) (k10 : PySem.W.keepIn K (.ref f10) = true)
    (a11 : PySem.W.nsIn K mainGlobals "meet" = some (some (.ref f11))) (l11 : K.lookup f11 = some ⟨oc11, od11, .func (PySem.W.fnOf "meet" "meet" (defArgs s_meet) (defBody s_meet) (defScope s_meet) .none kV11 dc11 pm11 an11 cd11 ct11), sl11⟩) (c11 : PySem.W.codeIn K cd11 "meet" = true) (k11 : PySem.W.keepIn K (.ref f11) = true)
    (a12 : PySem.W.nsIn K mainGlobals "shows" = some (some (.ref f12))) (l12 : K.lookup f12 = some ⟨oc12, od12, .func (PySem.W.fnOf "shows" "shows" (defArgs s_shows) (defBody s_shows) (defScope s_shows) .none kV12 dc12 pm12 an12 cd12 ct12), sl12⟩) (c12 : PySem.W.codeIn K cd12 "shows" = true) (k12 : PySem.W.keepIn K (.ref f12) = true)
    (a13 : PySem.W.nsIn K mainGlobals "_law_mix" = some (some (.ref f13))) (l13 : K.lookup f13 = some ⟨oc13, od13, .func (PySem.W.fnOf "_law_mix" "_law_mix" (defArgs s_law_mix) (defBody s_law_mix) (defScope s_law_mix) .none kV13 dc13 pm13 an13 cd13 ct13), sl13⟩) (c13 : PySem.W.codeIn K cd13 "_law_mix" = true) (k13 : PySem.W.keepIn K (.ref f13) = true)
    (a14 : PySem.W.nsIn K mainGlobals "_law_cell_at" = some (some (.ref f14))) (l14 : K.lookup f14 = some ⟨oc14, od14, .func (PySem.W.fnOf "_law_cell_at" "_law_cell_at" (defArgs s_law_cell_at) (defBody s_law_cell_at) (defScope s_law_cell_at) .none kV14 dc14 pm14 an14 cd14 ct14), sl14⟩) (c14 : PySem.W.codeIn K cd14 "_law_cell_at" = true) (k14 : PySem.W.keepIn K (.ref f14) = true)
    (a15 : PySem.W.nsIn K mainGlobals "_law_left" = some (some (.ref f15))) (l15 : K.lookup f15 = some ⟨oc15, od15, .func (PySem.W.fnOf "_law_left" "_law_left" (defArgs s_law_left) (defBody s_law_left) (defScope s_law_left) .none kV15 dc15 pm15 an15 cd15 ct15), sl15⟩) (c15 : PySem.W.codeIn K cd15 "_law_left" = true) (k15 : PySem.W.keepIn K (.ref f15) = true)
    (a16 : PySem.W.nsIn K mainGlobals "_law_draw" = some (some (.ref f16))) (l16 : K.lookup f16 = some ⟨oc16, od16, .func (PySem.W.fnOf "_law_draw" "_law_draw" (defArgs s_law_draw) (defBody s_law_draw) (defScope s_law_draw) .none kV16 dc16 pm16 an16 cd16 ct16), sl16⟩) (c16 : PySem.W.codeIn K cd16 "_law_draw" = true) (k16 : PySem.W.keepIn K (.ref f16) = true)
    (a17 : PySem.W.nsIn K mainGlobals "_law_line" = some (some (.ref f17))) (l17 : K.lookup f17 = some ⟨oc17, od17, .func (PySem.W.fnOf "_law_line" "_law_line" (defArgs s_law_line) (defBody s_law_line) (defScope s_law_line) .none kV17 dc17 pm17 an17 cd17 ct17), sl17⟩) (c17 : PySem.W.codeIn K cd17 "_law_line" = true) (k17 : PySem.W.keepIn K (.ref f17) = true)
    (a18 : PySem.W.nsIn K mainGlobals "_law_way" = some (some (.ref f18))) (l18 : K.lookup f18 = some ⟨oc18, od18, .func (PySem.W.fnOf "_law_way" "_law_way" (defArgs s_law_way) (defBody s_law_way) (defScope s_law_way) .none kV18 dc18 pm18 an18 cd18 ct18), sl18⟩) (c18 : PySem.W.codeIn K cd18 "_law_way" = true) (k18 : PySem.W.keepIn K (.ref f18) = true)
    (a19 : PySem.W.nsIn K mainGlobals "_law_refused" = some (some (.ref f19))) (l19 : K.lookup f19 = some ⟨oc19, od19, .func (PySem.W.fnOf "_law_refused" "_law_refused" (defArgs s_law_refused) (defBody s_law_refused) (defScope s_law_refused) .none kV19 dc19 pm19 an19 cd19 ct19), sl19⟩) (c19 : PySem.W.codeIn K cd19 "_law_refused" = true) (k19 : PySem.W.keepIn K (.ref f19) = true)
    (a20 : PySem.W.nsIn K mainGlobals "_law_no_tie" = some (some (.ref f20))) (l20 : K.lookup f20 = some ⟨oc20, od20, .func (PySem.W.fnOf "_law_no_tie" "_law_no_tie" (defArgs s_law_no_tie) (defBody s_law_no_tie) (defScope s_law_no_tie) .none kV20 dc20 pm20 an20 cd20 ct20), sl20⟩) (c20 : PySem.W.codeIn K cd20 "_law_no_tie" = true) (k20 : PySem.W.keepIn K (.ref f20) = true)
    (a21 : PySem.W.nsIn K mainGlobals "_law_other" = some (some (.ref f21))) (l21 : K.lookup f21 = some ⟨oc21, od21, .func (PySem.W.fnOf "_law_other" "_law_other" (defArgs s_law_other) (defBody s_law_other) (defScope s_law_other) .none kV21 dc21 pm21 an21 cd21 ct21), sl21⟩) (c21 : PySem.W.codeIn K cd21 "_law_other" = true) (k21 : PySem.W.keepIn K (.ref f21) = true)
    (a22 : PySem.W.nsIn K mainGlobals "_law_as_clean" = some (some (.ref f22))) (l22 : K.lookup f22 = some ⟨oc22, od22, .func (PySem.W.fnOf "_law_as_clean" "_law_as_clean" (defArgs s_law_as_clean) (defBody s_law_as_clean) (defScope s_law_as_clean) .none kV22 dc22 pm22 an22 cd22 ct22), sl22⟩) (c22 : PySem.W.codeIn K cd22 "_law_as_clean" = true) (k22 : PySem.W.keepIn K (.ref f22) = true)
    (a23 : PySem.W.nsIn K mainGlobals "law" = some (some (.ref f23))) (l23 : K.lookup f23 = some ⟨oc23, od23, .func (PySem.W.fnOf "law" "law" (defArgs s_law) (defBody s_law) (defScope s_law) .none kV23 dc23 pm23 an23 cd23 ct23), sl23⟩) (c23 : PySem.W.codeIn K cd23 "law" = true) (k23 : PySem.W.keepIn K (.ref f23) = true)
    {cm24 : Addr} (a24 : PySem.W.nsIn K mainGlobals "Giver" = some (some (.ref cm24))) (m24 : PySem.W.makesIn K cm24 = true) (i24 : PySem.W.findIn K (.ref cm24) "__init__" = some (some (.ref f24))) (n24 : PySem.W.isFn K (.ref f24) = true) (p24 : PySem.W.keepIn K (.ref cm24) = true) (l24 : K.lookup f24 = some ⟨oc24, od24, .func (PySem.W.fnOf "__init__" "Giver.__init__" (defArgs s_Giver_init) (defBody s_Giver_init) (defScope s_Giver_init) .none kV24 dc24 pm24 an24 cd24 ct24), sl24⟩) (c24 : PySem.W.codeIn K cd24 "Giver.__init__" = true) (k24 : PySem.W.keepIn K (.ref f24) = true)
    (pg24 : PySem.W.plainGet K cm24 Str.empty = true) (hd24 : PySem.W.hasDictIn K cm24 = true) (po24 : PySem.W.plainOver K cm24 = true) (sb24 : PySem.W.findIn K (.ref cm24) "__setattr__" = some (some (.builtin "object.__setattr__")))
    (nn24_0 : PySem.W.findIn K (.ref cm24) "net" = some none)
    (nn24_1 : PySem.W.findIn K (.ref cm24) "come" = some none)
    (nn24_2 : PySem.W.findIn K (.ref cm24) "lain" = some none)
    (nn24_3 : PySem.W.findIn K (.ref cm24) "given" = some none)
    (nn24_4 : PySem.W.findIn K (.ref cm24) "level" = some none)
    (nn24_5 : PySem.W.findIn K (.ref cm24) "own" = some none)
    (nn24_6 : PySem.W.findIn K (.ref cm24) "upto" = some none)
    (i25 : PySem.W.findIn K (.ref cm24) "level_for" = some (some (.ref f25))) (n25 : PySem.W.isFn K (.ref f25) = true) (l25 : K.lookup f25 = some ⟨oc25, od25, .func (PySem.W.fnOf "level_for" "Giver.level_for" (defArgs s_Giver_level_for) (defBody s_Giver_level_for) (defScope s_Giver_level_for) .none kV25 dc25 pm25 an25 cd25 ct25), sl25⟩) (c25 : PySem.W.codeIn K cd25 "Giver.level_for" = true) (k25 : PySem.W.keepIn K (.ref f25) = true)
    (i26 : PySem.W.findIn K (.ref cm24) "own_for" = some (some (.ref f26))) (n26 : PySem.W.isFn K (.ref f26) = true) (l26 : K.lookup f26 = some ⟨oc26, od26, .func (PySem.W.fnOf "own_for" "Giver.own_for" (defArgs s_Giver_own_for) (defBody s_Giver_own_for) (defScope s_Giver_own_for) .none kV26 dc26 pm26 an26 cd26 ct26), sl26⟩) (c26 : PySem.W.codeIn K cd26 "Giver.own_for" = true) (k26 : PySem.W.keepIn K (.ref f26) = true)
    (i27 : PySem.W.findIn K (.ref cm24) "counted_in" = some (some (.ref f27))) (n27 : PySem.W.isFn K (.ref f27) = true) (l27 : K.lookup f27 = some ⟨oc27, od27, .func (PySem.W.fnOf "counted_in" "Giver.counted_in" (defArgs s_Giver_counted_in) (defBody s_Giver_counted_in) (defScope s_Giver_counted_in) .none kV27 dc27 pm27 an27 cd27 ct27), sl27⟩) (c27 : PySem.W.codeIn K cd27 "Giver.counted_in" = true) (k27 : PySem.W.keepIn K (.ref f27) = true)
    (i28 : PySem.W.findIn K (.ref cm24) "put" = some (some (.ref f28))) (n28 : PySem.W.isFn K (.ref f28) = true) (l28 : K.lookup f28 = some ⟨oc28, od28, .func (PySem.W.fnOf "put" "Giver.put" (defArgs s_Giver_put) (defBody s_Giver_put) (defScope s_Giver_put) .none kV28 dc28 pm28 an28 cd28 ct28), sl28⟩) (c28 : PySem.W.codeIn K cd28 "Giver.put" = true) (k28 : PySem.W.keepIn K (.ref f28) = true)
    (i29 : PySem.W.findIn K (.ref cm24) "ways" = some (some (.ref f29))) (n29 : PySem.W.isFn K (.ref f29) = true) (l29 : K.lookup f29 = some ⟨oc29, od29, .func (PySem.W.fnOf "ways" "Giver.ways" (defArgs s_Giver_ways) (defBody s_Giver_ways) (defScope s_Giver_ways) .none kV29 dc29 pm29 an29 cd29 ct29), sl29⟩) (c29 : PySem.W.codeIn K cd29 "Giver.ways" = true) (k29 : PySem.W.keepIn K (.ref f29) = true)
    (i30 : PySem.W.findIn K (.ref cm24) "hues" = some (some (.ref f30))) (n30 : PySem.W.isFn K (.ref f30) = true) (l30 : K.lookup f30 = some ⟨oc30, od30, .func (PySem.W.fnOf "hues" "Giver.hues" (defArgs s_Giver_hues) (defBody s_Giver_hues) (defScope s_Giver_hues) .none kV30 dc30 pm30 an30 cd30 ct30), sl30⟩) (c30 : PySem.W.codeIn K cd30 "Giver.hues" = true) (k30 : PySem.W.keepIn K (.ref f30) = true)
    (i31 : PySem.W.findIn K (.ref cm24) "levels" = some (some (.ref f31))) (n31 : PySem.W.isFn K (.ref f31) = true) (l31 : K.lookup f31 = some ⟨oc31, od31, .func (PySem.W.fnOf "levels" "Giver.levels" (defArgs s_Giver_levels) (defBody s_Giver_levels) (defScope s_Giver_levels) .none kV31 dc31 pm31 an31 cd31 ct31), sl31⟩) (c31 : PySem.W.codeIn K cd31 "Giver.levels" = true) (k31 : PySem.W.keepIn K (.ref f31) = true)
    (i32 : PySem.W.findIn K (.ref cm24) "own_tie" = some (some (.ref f32))) (n32 : PySem.W.isFn K (.ref f32) = true) (l32 : K.lookup f32 = some ⟨oc32, od32, .func (PySem.W.fnOf "own_tie" "Giver.own_tie" (defArgs s_Giver_own_tie) (defBody s_Giver_own_tie) (defScope s_Giver_own_tie) .none kV32 dc32 pm32 an32 cd32 ct32), sl32⟩) (c32 : PySem.W.codeIn K cd32 "Giver.own_tie" = true) (k32 : PySem.W.keepIn K (.ref f32) = true)
    (e0 : PySem.W.nsIn K mainGlobals "MOST_PLACES" = some (some (.int 60 tk0)))
    (e1 : PySem.W.nsIn K mainGlobals "MOST_WAYS" = some (some (.int 40 tk1)))
    (z0 : PySem.W.nsIn K mainGlobals "ValueError" = some none)
    (z1 : PySem.W.nsIn K mainGlobals "int" = some none)
    (z2 : PySem.W.nsIn K mainGlobals "isinstance" = some none)
    (z3 : PySem.W.nsIn K mainGlobals "len" = some none)
    (z4 : PySem.W.nsIn K mainGlobals "list" = some none)
    (z5 : PySem.W.nsIn K mainGlobals "max" = some none)
    (z6 : PySem.W.nsIn K mainGlobals "min" = some none)
    (z7 : PySem.W.nsIn K mainGlobals "range" = some none)
    (z8 : PySem.W.nsIn K mainGlobals "sorted" = some none)
    {cc0 cc1 cc2 cc3 cc4 cc5 : Addr}
    (kk0 : PySem.W.nsIn K mainGlobals "TieError" = some (some (.ref cc0))) (xx0 : exkB K cc0 = true) (tt0 : PySem.W.typeIn K (.ref cc0) = some (.type "type"))
    (kk1 : PySem.W.nsIn K mainGlobals "NoNet" = some (some (.ref cc1))) (xx1 : exkB K cc1 = true) (tt1 : PySem.W.typeIn K (.ref cc1) = some (.type "type"))
    (kk2 : PySem.W.nsIn K mainGlobals "OtherNet" = some (some (.ref cc2))) (xx2 : exkB K cc2 = true) (tt2 : PySem.W.typeIn K (.ref cc2) = some (.type "type"))
    (kk3 : PySem.W.nsIn K mainGlobals "NoWay" = some (some (.ref cc3))) (xx3 : exkB K cc3 = true) (tt3 : PySem.W.typeIn K (.ref cc3) = some (.type "type"))
    (kk4 : PySem.W.nsIn K mainGlobals "TooMany" = some (some (.ref cc4))) (xx4 : exkB K cc4 = true) (tt4 : PySem.W.typeIn K (.ref cc4) = some (.type "type"))
    (kk5 : PySem.W.nsIn K mainGlobals "NoHues" = some (some (.ref cc5))) (xx5 : exkB K cc5 = true) (tt5 : PySem.W.typeIn K (.ref cc5) = some (.type "type"))
    {nm3 q3 : Str} {N3 : Addr} {bs3 : List Value} {sn3 : List Str} {su3 : List Value} {ab3 : Bool} {co3 : Option Bool} {dd3 : Option Addr} {ma3 mb3 mc3 md3 me3 : Option Value} {fi3 : Addr} {odi3 ani3 : Option Addr} {sli3 : Array (Option Value)} {oci3 kVi3 dci3 pmi3 cdi3 cti3 : Value}
    (la3 : K.lookup cc3 = some (excClassObj nm3 q3 cc3 N3 bs3 [.ref cc0, .type "ValueError", .type "Exception", .type "BaseException", .type "object"] true sn3 su3 ab3 co3 dd3 ma3 mb3 mc3 md3 me3 "ValueError.__new__"))
    (sa3 : PySem.W.findIn K (.ref cc3) "__setattr__" = some (some (.builtin "object.__setattr__"))) (ee3 : PySem.W.subIn K (.ref cc3) (.type "BaseException") = some true) (ke3 : PySem.W.keepIn K (.ref cc3) = true)
    (ai3 : PySem.W.findIn K (.ref cc3) "__init__" = some (some (.ref fi3))) (ti3 : PySem.W.typeIn K (.ref fi3) = some (.type "function")) (li3 : K.lookup fi3 = some ⟨oci3, odi3, .func (PySem.W.fnOf "__init__" "NoWay.__init__" (defArgs s_init_NoWay) (defBody s_init_NoWay) (defScope s_init_NoWay) .none kVi3 dci3 pmi3 ani3 cdi3 cti3), sli3⟩) (ci3 : PySem.W.codeIn K cdi3 "NoWay.__init__" = true) (ki3 : PySem.W.keepIn K (.ref fi3) = true) (nf3 : PySem.W.findIn K (.ref cc3) "at" = some none)
    {nm5 q5 : Str} {N5 : Addr} {bs5 : List Value} {sn5 : List Str} {su5 : List Value} {ab5 : Bool} {co5 : Option Bool} {dd5 : Option Addr} {ma5 mb5 mc5 md5 me5 : Option Value} {fi5 : Addr} {odi5 ani5 : Option Addr} {sli5 : Array (Option Value)} {oci5 kVi5 dci5 pmi5 cdi5 cti5 : Value}
    (la5 : K.lookup cc5 = some (excClassObj nm5 q5 cc5 N5 bs5 [.ref cc0, .type "ValueError", .type "Exception", .type "BaseException", .type "object"] true sn5 su5 ab5 co5 dd5 ma5 mb5 mc5 md5 me5 "ValueError.__new__"))
    (sa5 : PySem.W.findIn K (.ref cc5) "__setattr__" = some (some (.builtin "object.__setattr__"))) (ee5 : PySem.W.subIn K (.ref cc5) (.type "BaseException") = some true) (ke5 : PySem.W.keepIn K (.ref cc5) = true)
    (ai5 : PySem.W.findIn K (.ref cc5) "__init__" = some (some (.ref fi5))) (ti5 : PySem.W.typeIn K (.ref fi5) = some (.type "function")) (li5 : K.lookup fi5 = some ⟨oci5, odi5, .func (PySem.W.fnOf "__init__" "NoHues.__init__" (defArgs s_init_NoHues) (defBody s_init_NoHues) (defScope s_init_NoHues) .none kVi5 dci5 pmi5 ani5 cdi5 cti5), sli5⟩) (ci5 : PySem.W.codeIn K cdi5 "NoHues.__init__" = true) (ki5 : PySem.W.keepIn K (.ref fi5) = true) (nf5 : PySem.W.findIn K (.ref cc5) "place" = some none)
    (rr0 : PySem.W.readsIn K cc0 (.type "type") = true) (rr1 : PySem.W.specialIn K (.ref cc0) "__getattribute__" = some (some (.builtin "type.__getattribute__"))) (rr2 : PySem.W.findCls K (.ref cc0) (.type "type") "__init__" = some (.val (.builtin "ValueError.__init__")))
    (uu3 : PySem.W.subIn K (.ref cc3) (.ref cc0) = some true)
    (qq3_0 : PySem.W.kitOne K (.ref cc3) (.ref cc5) = some false)
    (qq3_1 : PySem.W.kitOne K (.ref cc3) (.ref cc1) = some false)
    (qq3_2 : PySem.W.kitOne K (.ref cc3) (.ref cc3) = some true)
    (qq3_3 : PySem.W.kitOne K (.ref cc3) (.ref cc2) = some false)
    (qq3_4 : PySem.W.kitOne K (.ref cc3) (.ref cc4) = some false)
    (qq3_5 : PySem.W.kitOne K (.ref cc3) (.type "ValueError") = some true)
    (ex2 : PySem.W.excIn K cc2 [.type "ValueError", .type "Exception", .type "BaseException", .type "object"] "ValueError.__new__" = true) (pp2 : PySem.W.keepIn K (.ref cc2) = true)
    (uu2 : PySem.W.subIn K (.ref cc2) (.ref cc0) = some true)
    (qq2_0 : PySem.W.kitOne K (.ref cc2) (.ref cc5) = some false)
    (qq2_1 : PySem.W.kitOne K (.ref cc2) (.ref cc1) = some false)
    (qq2_2 : PySem.W.kitOne K (.ref cc2) (.ref cc3) = some false)
    (qq2_3 : PySem.W.kitOne K (.ref cc2) (.ref cc2) = some true)
    (qq2_4 : PySem.W.kitOne K (.ref cc2) (.ref cc4) = some false)
    (qq2_5 : PySem.W.kitOne K (.ref cc2) (.type "ValueError") = some true)
    (ex4 : PySem.W.excIn K cc4 [.type "ValueError", .type "Exception", .type "BaseException", .type "object"] "ValueError.__new__" = true) (pp4 : PySem.W.keepIn K (.ref cc4) = true)
    (uu4 : PySem.W.subIn K (.ref cc4) (.ref cc0) = some true)
    (qq4_0 : PySem.W.kitOne K (.ref cc4) (.ref cc5) = some false)
    (qq4_1 : PySem.W.kitOne K (.ref cc4) (.ref cc1) = some false)
    (qq4_2 : PySem.W.kitOne K (.ref cc4) (.ref cc3) = some false)
    (qq4_3 : PySem.W.kitOne K (.ref cc4) (.ref cc2) = some false)
    (qq4_4 : PySem.W.kitOne K (.ref cc4) (.ref cc4) = some true)
    (qq4_5 : PySem.W.kitOne K (.ref cc4) (.type "ValueError") = some true)
    : ∃ fd : FuncData, (∀ (s : Shared) (v : Value), BindsTo s fd ⟨[v], []⟩ [("_law_script", v)]) ∧ ∀ base : Heap, K.In base → base.Ns mainGlobals mg → FnOk l.prog w K mg base CX0 7 fa fd ["_law_script"] (sp_law K) := by
  have e := hfa.symm.trans (PySem.W.mg_of X G a23)
  cases e
  have F0 := fun_mk (st := s_is_tree) l0 c0 k0
  have b0 := F0.binds (ps := ["parents"]) fun _ _ _ _ _ _ us hl => match us, hl with | [_], _ => rfl
  have F1 := fun_mk (st := s_look_net) l1 c1 k1
  have b1 := F1.binds (ps := ["net"]) fun _ _ _ _ _ _ us hl => match us, hl with | [_], _ => rfl
  have F2 := fun_mk (st := s_must_be_kind) l2 c2 k2
  have b2 := F2.binds (ps := ["net", "kind"]) fun _ _ _ _ _ _ us hl => match us, hl with | [_, _], _ => rfl
  have F3 := fun_mk (st := s_places_of) l3 c3 k3
  have b3 := F3.binds (ps := ["net"]) fun _ _ _ _ _ _ us hl => match us, hl with | [_], _ => rfl
  have F4 := fun_mk (st := s_is_way) l4 c4 k4
  have b4 := F4.binds (ps := ["net", "way"]) fun _ _ _ _ _ _ us hl => match us, hl with | [_, _], _ => rfl
  have F5 := fun_mk (st := s_ties_on) l5 c5 k5
  have b5 := F5.binds (ps := ["net", "way"]) fun _ _ _ _ _ _ us hl => match us, hl with | [_, _], _ => rfl
  have F6 := fun_mk (st := s_must_be_ways) l6 c6 k6
  have b6 := F6.binds (ps := ["net", "ways"]) fun _ _ _ _ _ _ us hl => match us, hl with | [_, _], _ => rfl
  have F7 := fun_mk (st := s_look_ways) l7 c7 k7
  have b7 := F7.binds (ps := ["net", "ways"]) fun _ _ _ _ _ _ us hl => match us, hl with | [_, _], _ => rfl
  have F8 := fun_mk (st := s_first_clash) l8 c8 k8
  have b8 := F8.binds (ps := ["lain", "hues"]) fun _ _ _ _ _ _ us hl => match us, hl with | [_, _], _ => rfl
  have F9 := fun_mk (st := s_clash) l9 c9 k9
  have b9 := F9.binds (ps := ["net", "ways", "hues"]) fun _ _ _ _ _ _ us hl => match us, hl with | [_, _, _], _ => rfl
  have F10 := fun_mk (st := s_hues_of) l10 c10 k10
  have b10 := F10.binds (ps := ["level"]) fun _ _ _ _ _ _ us hl => match us, hl with | [_], _ => rfl
  have F11 := fun_mk (st := s_meet) l11 c11 k11
  have b11 := F11.binds (ps := ["one", "other"]) fun _ _ _ _ _ _ us hl => match us, hl with | [_, _], _ => rfl
  have F12 := fun_mk (st := s_shows) l12 c12 k12
  have b12 := F12.binds (ps := ["net", "ways", "lines"]) fun _ _ _ _ _ _ us hl => match us, hl with | [_, _, _], _ => rfl
  have F13 := fun_mk (st := s_law_mix) l13 c13 k13
  have b13 := F13.binds (ps := ["_law_number", "_law_k"]) fun _ _ _ _ _ _ us hl => match us, hl with | [_, _], _ => rfl
  have F14 := fun_mk (st := s_law_cell_at) l14 c14 k14
  have b14 := F14.binds (ps := ["_law_script", "_law_k"]) fun _ _ _ _ _ _ us hl => match us, hl with | [_, _], _ => rfl
  have F15 := fun_mk (st := s_law_left) l15 c15 k15
  have b15 := F15.binds (ps := ["_law_script", "_law_k"]) fun _ _ _ _ _ _ us hl => match us, hl with | [_, _], _ => rfl
  have F16 := fun_mk (st := s_law_draw) l16 c16 k16
  have b16 := F16.binds (ps := ["_law_left_here", "_law_base"]) fun _ _ _ _ _ _ us hl => match us, hl with | [_, _], _ => rfl
  have F17 := fun_mk (st := s_law_line) l17 c17 k17
  have b17 := F17.binds (ps := ["_law_left_here"]) fun _ _ _ _ _ _ us hl => match us, hl with | [_], _ => rfl
  have F18 := fun_mk (st := s_law_way) l18 c18 k18
  have b18 := F18.binds (ps := ["_law_left_here", "_law_many"]) fun _ _ _ _ _ _ us hl => match us, hl with | [_, _], _ => rfl
  have F19 := fun_mk (st := s_law_refused) l19 c19 k19
  have b19 := F19.binds (ps := ["_law_giver", "_law_way_here"]) fun _ _ _ _ _ _ us hl => match us, hl with | [_, _], _ => rfl
  have F20 := fun_mk (st := s_law_no_tie) l20 c20 k20
  have b20 := F20.binds (ps := ["_law_giver", "_law_number"]) fun _ _ _ _ _ _ us hl => match us, hl with | [_, _], _ => rfl
  have F21 := fun_mk (st := s_law_other) l21 c21 k21
  have b21 := F21.binds (ps := ["_law_net", "_law_which"]) fun _ _ _ _ _ _ us hl => match us, hl with | [_, _], _ => rfl
  have F22 := fun_mk (st := s_law_as_clean) l22 c22 k22
  have b22 := F22.binds (ps := ["_law_net", "_law_giver", "_law_clean", "_law_count"]) fun _ _ _ _ _ _ us hl => match us, hl with | [_, _, _, _], _ => rfl
  have F23 := fun_mk (st := s_law) l23 c23 k23
  have b23 := F23.binds (ps := ["_law_script"]) fun _ _ _ _ _ _ us hl => match us, hl with | [_], _ => rfl
  have F24 := fun_mk (st := s_Giver_init) l24 c24 k24
  have b24 := F24.binds (ps := ["self", "net"]) fun _ _ _ _ _ _ us hl => match us, hl with | [_, _], _ => rfl
  have F25 := fun_mk (st := s_Giver_level_for) l25 c25 k25
  have b25 := F25.binds (ps := ["self", "ties"]) fun _ _ _ _ _ _ us hl => match us, hl with | [_, _], _ => rfl
  have F26 := fun_mk (st := s_Giver_own_for) l26 c26 k26
  have b26 := F26.binds (ps := ["self", "ties", "i"]) fun _ _ _ _ _ _ us hl => match us, hl with | [_, _, _], _ => rfl
  have F27 := fun_mk (st := s_Giver_counted_in) l27 c27 k27
  have b27 := F27.binds (ps := ["self", "ties", "i"]) fun _ _ _ _ _ _ us hl => match us, hl with | [_, _, _], _ => rfl
  have F28 := fun_mk (st := s_Giver_put) l28 c28 k28
  have b28 := F28.binds (ps := ["self", "way"]) fun _ _ _ _ _ _ us hl => match us, hl with | [_, _], _ => rfl
  have F29 := fun_mk (st := s_Giver_ways) l29 c29 k29
  have b29 := F29.binds (ps := ["self"]) fun _ _ _ _ _ _ us hl => match us, hl with | [_], _ => rfl
  have F30 := fun_mk (st := s_Giver_hues) l30 c30 k30
  have b30 := F30.binds (ps := ["self"]) fun _ _ _ _ _ _ us hl => match us, hl with | [_], _ => rfl
  have F31 := fun_mk (st := s_Giver_levels) l31 c31 k31
  have b31 := F31.binds (ps := ["self"]) fun _ _ _ _ _ _ us hl => match us, hl with | [_], _ => rfl
  have F32 := fun_mk (st := s_Giver_own_tie) l32 c32 k32
  have b32 := F32.binds (ps := ["self", "number"]) fun _ _ _ _ _ _ us hl => match us, hl with | [_, _], _ => rfl
  have Fi3 := fun_mk (st := s_init_NoWay) li3 ci3 ki3
  have bi3 := Fi3.binds (ps := ["self", "at"]) fun _ _ _ _ _ _ us hl => match us, hl with | [_, _], _ => rfl
  have Fi5 := fun_mk (st := s_init_NoHues) li5 ci5 ki5
  have bi5 := Fi5.binds (ps := ["self", "place"]) fun _ _ _ _ _ _ us hl => match us, hl with | [_, _], _ => rfl
  have T : Txt K mg ⟨cc0, cc1, cc2, cc3, cc4, cc5, fi3, _, fi5, _, cm24, f0, _, f1, _, f2, _, f3, _, f4, _, f5, _, f6, _, f7, _, f8, _, f9, _, f10, _, f11, _, f12, _, f13, _, f14, _, f15, _, f16, _, f17, _, f18, _, f19, _, f20, _, f21, _, f22, _, fa, _, f24, _, f25, _, f26, _, f27, _, f28, _, f29, _, f30, _, f31, _, f32, _⟩ :=
    ⟨PySem.W.mg_of X G a0, F0, b0, PySem.W.mg_of X G a1, F1, b1, PySem.W.mg_of X G a2, F2, b2, PySem.W.mg_of X G a3, F3, b3, PySem.W.mg_of X G a4, F4, b4, PySem.W.mg_of X G a5, F5, b5, PySem.W.mg_of X G a6, F6, b6, PySem.W.mg_of X G a7, F7, b7, PySem.W.mg_of X G a8, F8, b8, PySem.W.mg_of X G a9, F9, b9, PySem.W.mg_of X G a10, F10, b10, PySem.W.mg_of X G a11, F11, b11, PySem.W.mg_of X G a12, F12, b12, PySem.W.mg_of X G a13, F13, b13, PySem.W.mg_of X G a14, F14, b14, PySem.W.mg_of X G a15, F15, b15, PySem.W.mg_of X G a16, F16, b16, PySem.W.mg_of X G a17, F17, b17, PySem.W.mg_of X G a18, F18, b18, PySem.W.mg_of X G a19, F19, b19, PySem.W.mg_of X G a20, F20, b20, PySem.W.mg_of X G a21, F21, b21, PySem.W.mg_of X G a22, F22, b22, PySem.W.mg_of X G a23, F23, b23, PySem.W.mg_of X G a24, ⟨m24, i24, n24, p24⟩, F24, ⟨pg24, hd24, po24, sb24⟩, nn24_0, nn24_1, nn24_2, nn24_3, nn24_4, nn24_5, nn24_6, b24, ⟨i25, n25, k25⟩, F25, b25, ⟨i26, n26, k26⟩, F26, b26, ⟨i27, n27, k27⟩, F27, b27, ⟨i28, n28, k28⟩, F28, b28, ⟨i29, n29, k29⟩, F29, b29, ⟨i30, n30, k30⟩, F30, b30, ⟨i31, n31, k31⟩, F31, b31, ⟨i32, n32, k32⟩, F32, b32, tok_mk (PySem.W.mg_of X G e0), tok_mk (PySem.W.mg_of X G e1), PySem.W.mg_none_of X G z0, PySem.W.mg_none_of X G z1, PySem.W.mg_none_of X G z2, PySem.W.mg_none_of X G z3, PySem.W.mg_none_of X G z4, PySem.W.mg_none_of X G z5, PySem.W.mg_none_of X G z6, PySem.W.mg_none_of X G z7, PySem.W.mg_none_of X G z8, PySem.W.mg_of X G kk0, exkB_ok xx0, tt0, PySem.W.mg_of X G kk1, exkB_ok xx1, tt1, PySem.W.mg_of X G kk2, exkB_ok xx2, tt2, PySem.W.mg_of X G kk3, exkB_ok xx3, tt3, PySem.W.mg_of X G kk4, exkB_ok xx4, tt4, PySem.W.mg_of X G kk5, exkB_ok xx5, tt5, ⟨⟨nm3, q3, N3, bs3, _, sn3, su3, ab3, co3, dd3, ma3, mb3, mc3, md3, me3, la3, rfl⟩, sa3, ee3, tt3, ke3⟩, ai3, ti3, Fi3, bi3, nf3, ⟨⟨nm5, q5, N5, bs5, _, sn5, su5, ab5, co5, dd5, ma5, mb5, mc5, md5, me5, la5, rfl⟩, sa5, ee5, tt5, ke5⟩, ai5, ti5, Fi5, bi5, nf5, ⟨PySem.W.mg_of X G kk0, rr0, rr1, rr2⟩, uu3, qq3_0, qq3_1, qq3_2, qq3_3, qq3_4, qq3_5, ex2, pp2, uu2, qq2_0, qq2_1, qq2_2, qq2_3, qq2_4, qq2_5, ex4, pp4, uu4, qq4_0, qq4_1, qq4_2, qq4_3, qq4_4, qq4_5⟩
  exact ⟨_, fun s v => .of_eq rfl, fun base _ _ => ok_law T⟩
end Pf
open PySem PySem.W PyProof.Rows
set_option maxHeartbeats 0 in
theorem PySem.Challenge.cw_tiehues_k13_givers_refuse_holds : PySem.Challenge.rw_tiehues_k13_givers_refuse.Holds := by
  w_on; o_law; k_head; (case hw => w_witness2)
  k_fill
  refine L2.walk_ofK (l := PySem.Challenge.rw_tiehues_k13_givers_refuse) (n := 63) (k := 7) (x := "_law_script") (CX := L2.CX0) (sp := Pf.sp_law) rfl (by decide) rfl ⟨rfl, by decide, by decide⟩ (fun w h Y => PySem.W.kIn_of Y) ?F (fun _ _ a ns hl _ hS => ⟨a, ns, rfl, hS, hl, fun _ => rfl⟩) (fun _ _ _ _ h => h)
  case F =>
    intro w mg fa h KX G hmg
    refine' Pf.all_mk KX G hmg ?a0 ?l0 ?c0 ?k0 ?a1 ?l1 ?c1 ?k1 ?a2 ?l2 ?c2 ?k2 ?a3 ?l3 ?c3 ?k3 ?a4 ?l4 ?c4 ?k4 ?a5 ?l5 ?c5 ?k5 ?a6 ?l6 ?c6 ?k6 ?a7 ?l7 ?c7 ?k7 ?a8 ?l8 ?c8 ?k8 ?a9 ?l9 ?c9 ?k9 ?a10 ?l10 ?c10 ?k10 ?a11 ?l11 ?c11 ?k11 ?a12 ?l12 ?c12 ?k12 ?a13 ?l13 ?c13 ?k13 ?a14 ?l14 ?c14 ?k14 ?a15 ?l15 ?c15 ?k15 ?a16 ?l16 ?c16 ?k16 ?a17 ?l17 ?c17 ?k17 ?a18 ?l18 ?c18 ?k18 ?a19 ?l19 ?c19 ?k19 ?a20 ?l20 ?c20 ?k20 ?a21 ?l21 ?c21 ?k21 ?a22 ?l22 ?c22 ?k22 ?a23 ?l23 ?c23 ?k23 ?a24 ?m24 ?i24 ?n24 ?p24 ?l24 ?c24 ?k24 ?pg24 ?hd24 ?po24 ?sb24 ?nn24_0 ?nn24_1 ?nn24_2 ?nn24_3 ?nn24_4 ?nn24_5 ?nn24_6 ?i25 ?n25 ?l25 ?c25 ?k25 ?i26 ?n26 ?l26 ?c26 ?k26 ?i27 ?n27 ?l27 ?c27 ?k27 ?i28 ?n28 ?l28 ?c28 ?k28 ?i29 ?n29 ?l29 ?c29 ?k29 ?i30 ?n30 ?l30 ?c30 ?k30 ?i31 ?n31 ?l31 ?c31 ?k31 ?i32 ?n32 ?l32 ?c32 ?k32 ?e0 ?e1 ?z0 ?z1 ?z2 ?z3 ?z4 ?z5 ?z6 ?z7 ?z8 ?kk0 ?xx0 ?tt0 ?kk1 ?xx1 ?tt1 ?kk2 ?xx2 ?tt2 ?kk3 ?xx3 ?tt3 ?kk4 ?xx4 ?tt4 ?kk5 ?xx5 ?tt5 ?la3 ?sa3 ?ee3 ?ke3 ?ai3 ?ti3 ?li3 ?ci3 ?ki3 ?nf3 ?la5 ?sa5 ?ee5 ?ke5 ?ai5 ?ti5 ?li5 ?ci5 ?ki5 ?nf5 ?rr0 ?rr1 ?rr2 ?uu3 ?qq3_0 ?qq3_1 ?qq3_2 ?qq3_3 ?qq3_4 ?qq3_5 ?ex2 ?pp2 ?uu2 ?qq2_0 ?qq2_1 ?qq2_2 ?qq2_3 ?qq2_4 ?qq2_5 ?ex4 ?pp4 ?uu4 ?qq4_0 ?qq4_1 ?qq4_2 ?qq4_3 ?qq4_4 ?qq4_5
    (case a0 => k_is); (case l0 => k_is); (case c0 => k_is); (case k0 => k_is); (case a1 => k_is); (case l1 => k_is); (case c1 => k_is); (case k1 => k_is); (case a2 => k_is); (case l2 => k_is); (case c2 => k_is); (case k2 => k_is); (case a3 => k_is); (case l3 => k_is); (case c3 => k_is); (case k3 => k_is); (case a4 => k_is); (case l4 => k_is); (case c4 => k_is); (case k4 => k_is); (case a5 => k_is); (case l5 => k_is); (case c5 => k_is); (case k5 => k_is); (case a6 => k_is); (case l6 => k_is); (case c6 => k_is); (case k6 => k_is); (case a7 => k_is); (case l7 => k_is); (case c7 => k_is); (case k7 => k_is); (case a8 => k_is); (case l8 => k_is); (case c8 => k_is); (case k8 => k_is); (case a9 => k_is); (case l9 => k_is); (case c9 => k_is); (case k9 => k_is); (case a10 => k_is); (case l10 => k_is); (case c10 => k_is); (case k10 => k_is); (case a11 => k_is); (case l11 => k_is); (case c11 => k_is); (case k11 => k_is); (case a12 => k_is); (case l12 => k_is); (case c12 => k_is); (case k12 => k_is); (case a13 => k_is); (case l13 => k_is); (case c13 => k_is); (case k13 => k_is); (case a14 => k_is); (case l14 => k_is); (case c14 => k_is); (case k14 => k_is); (case a15 => k_is); (case l15 => k_is); (case c15 => k_is); (case k15 => k_is); (case a16 => k_is); (case l16 => k_is); (case c16 => k_is); (case k16 => k_is); (case a17 => k_is); (case l17 => k_is); (case c17 => k_is); (case k17 => k_is); (case a18 => k_is); (case l18 => k_is); (case c18 => k_is); (case k18 => k_is); (case a19 => k_is); (case l19 => k_is); (case c19 => k_is); (case k19 => k_is); (case a20 => k_is); (case l20 => k_is); (case c20 => k_is); (case k20 => k_is); (case a21 => k_is); (case l21 => k_is); (case c21 => k_is); (case k21 => k_is); (case a22 => k_is); (case l22 => k_is); (case c22 => k_is); (case k22 => k_is); (case a23 => k_is); (case l23 => k_is); (case c23 => k_is); (case k23 => k_is); (case a24 => k_is); (case m24 => first | k_is | kernel_rfl); (case i24 => k_is); (case n24 => first | k_is | kernel_rfl); (case p24 => k_is); (case l24 => k_is); (case c24 => k_is); (case k24 => k_is); (case pg24 => first | k_is | kernel_rfl); (case hd24 => first | k_is | kernel_rfl); (case po24 => first | k_is | kernel_rfl); (case sb24 => first | k_is | kernel_rfl); (case nn24_0 => first | k_is | kernel_rfl); (case nn24_1 => first | k_is | kernel_rfl); (case nn24_2 => first | k_is | kernel_rfl); (case nn24_3 => first | k_is | kernel_rfl); (case nn24_4 => first | k_is | kernel_rfl); (case nn24_5 => first | k_is | kernel_rfl); (case nn24_6 => first | k_is | kernel_rfl); (case i25 => k_is); (case n25 => first | k_is | kernel_rfl); (case l25 => k_is); (case c25 => k_is); (case k25 => k_is); (case i26 => k_is); (case n26 => first | k_is | kernel_rfl); (case l26 => k_is); (case c26 => k_is); (case k26 => k_is); (case i27 => k_is); (case n27 => first | k_is | kernel_rfl); (case l27 => k_is); (case c27 => k_is); (case k27 => k_is); (case i28 => k_is); (case n28 => first | k_is | kernel_rfl); (case l28 => k_is); (case c28 => k_is); (case k28 => k_is); (case i29 => k_is); (case n29 => first | k_is | kernel_rfl); (case l29 => k_is); (case c29 => k_is); (case k29 => k_is); (case i30 => k_is); (case n30 => first | k_is | kernel_rfl); (case l30 => k_is); (case c30 => k_is); (case k30 => k_is); (case i31 => k_is); (case n31 => first | k_is | kernel_rfl); (case l31 => k_is); (case c31 => k_is); (case k31 => k_is); (case i32 => k_is); (case n32 => first | k_is | kernel_rfl); (case l32 => k_is); (case c32 => k_is); (case k32 => k_is); (case e0 => k_is); (case e1 => k_is); (case z0 => k_is); (case z1 => k_is); (case z2 => k_is); (case z3 => k_is); (case z4 => k_is); (case z5 => k_is); (case z6 => k_is); (case z7 => k_is); (case z8 => k_is); (case kk0 => k_is); (case xx0 => kernel_rfl); (case tt0 => k_is); (case kk1 => k_is); (case xx1 => kernel_rfl); (case tt1 => k_is); (case kk2 => k_is); (case xx2 => kernel_rfl); (case tt2 => k_is); (case kk3 => k_is); (case xx3 => kernel_rfl); (case tt3 => k_is); (case kk4 => k_is); (case xx4 => kernel_rfl); (case tt4 => k_is); (case kk5 => k_is); (case xx5 => kernel_rfl); (case tt5 => k_is); (case la3 => k_is); (case sa3 => k_is); (case ee3 => k_is); (case ke3 => k_is); (case ai3 => k_is); (case ti3 => k_is); (case li3 => k_is); (case ci3 => k_is); (case ki3 => k_is); (case nf3 => k_is); (case la5 => k_is); (case sa5 => k_is); (case ee5 => k_is); (case ke5 => k_is); (case ai5 => k_is); (case ti5 => k_is); (case li5 => k_is); (case ci5 => k_is); (case ki5 => k_is); (case nf5 => k_is); (case rr0 => k_is); (case rr1 => k_is); (case rr2 => k_is); (case uu3 => k_is); (case qq3_0 => kernel_rfl); (case qq3_1 => kernel_rfl); (case qq3_2 => kernel_rfl); (case qq3_3 => kernel_rfl); (case qq3_4 => kernel_rfl); (case qq3_5 => kernel_rfl); (case ex2 => k_exc); (case pp2 => k_is); (case uu2 => k_is); (case qq2_0 => kernel_rfl); (case qq2_1 => kernel_rfl); (case qq2_2 => kernel_rfl); (case qq2_3 => kernel_rfl); (case qq2_4 => kernel_rfl); (case qq2_5 => kernel_rfl); (case ex4 => k_exc); (case pp4 => k_is); (case uu4 => k_is); (case qq4_0 => kernel_rfl); (case qq4_1 => kernel_rfl); (case qq4_2 => kernel_rfl); (case qq4_3 => kernel_rfl); (case qq4_4 => kernel_rfl); (case qq4_5 => kernel_rfl)
